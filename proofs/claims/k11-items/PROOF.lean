import PyProof.Rows.All
import Wide.All
import OpenK.AllK
import Wide.FinOn
import HandS.ForMost
import HandS.ForExc
import HandS.IsInst
import HandS.SetKeys
import KE.KeyNested
import PyProof.DictMoreH
import HandS.Walk
import HandS.TupAny
import HandS.Deep
import HandS.Small
import HandS.More
import HandS.Style
import HandS.Finally
import HandS.Iter
import HandS.Strs
import HandS.SetFor
import HandS.SortInts
import KE.SortData
import KE.SortCalls
import HandS.TupSets
import HandS.SetBool
import KE.GoesEnum
import HandS.DictComp
import HandS.NoneIn
import HandS.WordsDict
import HandS.Property
import HandS.Defaults
import HandS.OwnEq
import HandS.Codes
import HandS.Sort
import KE.KDictList
import KE.KFmtOwn
import HandS.DeepEq
import HandS.Star
import KE.KExcSuper
import HandS.ExcInit
import HandS.TryMany
import HandS.ExcField
import KE.KDictWalk
import HandS.TupLen
import OpenK.KOps
import KE.KOpsOwn
import PyProof.FactsAll.dict_2
import PyProof.DictUpdate
import KE.DataCmp
import PyProof.NeKinds
import KE.KSuper
import KE.RegKTryMore
import KE.RegKSuper
import PyProof.P3Eq
import PySem.Challenge.RW_knownlate_k11_whole_items_of_a_watch
set_option Elab.async false
set_option linter.all false
set_option maxRecDepth 100000
set_option maxHeartbeats 1000000
namespace KN
open PySem PySem.W PySem.Calls PyProof.Rows PyProof.V PySem.Spec L2
/-! ## dicts whose keys are tuples of any depth -/
abbrev NK := PySem.NestedKey
abbrev Ens := List (NK × Addr × V)
abbrev Exs := List (NK × Addr × Value)
def valN (es : Ens) (k : NK) : Option V := (es.find? fun p => decide (p.1 = k)).map (·.2.2)
def putN (es : Ens) (k : NK) (A : Addr) (v : V) : Ens := if (valN es k).isSome = true then es.map (fun p => if p.1 = k then (p.1, p.2.1, v) else p) else es ++ [(k, A, v)]
def RN : Ens → Exs → Prop := Paired fun p q => p.1 = q.1 ∧ p.2.1 = q.2.1 ∧ RelV p.2.2 q.2.2
theorem RN.len {es : Ens} {xs : Exs} (r : RN es xs) : es.length = xs.length := Paired.length r
theorem RN.keys {es : Ens} {xs : Exs} (r : RN es xs) : es.map (·.1) = xs.map (·.1) := by
  unfold RN at r
  induction r with
  | nil => rfl
  | cons h t ih => rw [List.map_cons, List.map_cons, ih, h.1]
theorem RN.val {es : Ens} {xs : Exs} (r : RN es xs) (k : NK) : RelO (valN es k) ((atKey xs k).map (·.2)) := by
  unfold RN at r
  induction r with
  | nil => exact True.intro
  | @cons p q ps qs h t ih =>
    obtain ⟨g1, g2, g3⟩ := h
    by_cases z : p.1 = k
    · have z' : q.1 = k := g1.symm.trans z
      simp only [valN, atKey, List.find?_cons, z, z', decide_true, Option.map_some]
      exact g3
    · have z' : ¬ q.1 = k := fun y => z (g1.trans y)
      simp only [valN, atKey, List.find?_cons, z, z', decide_false] at ih ⊢
      exact ih
theorem RN.isSome {es : Ens} {xs : Exs} (r : RN es xs) (k : NK) : (valN es k).isSome = (atKey xs k).isSome := by
  have q := r.val k
  cases h1 : valN es k <;> cases h2 : atKey xs k <;> rw [h1, h2] at q <;> first | rfl | exact q.elim
theorem RN.put {es : Ens} {xs : Exs} (r : RN es xs) (k : NK) (A : Addr) {v : V} {u : Value} (rv : RelV v u) : RN (putN es k A v) (storedH xs k A u) := by
  unfold putN storedH
  rw [r.isSome k]
  by_cases q : (atKey xs k).isSome = true
  · rw [if_pos q, if_pos q]
    clear q
    unfold RN at r ⊢
    induction r with
    | nil => exact .nil
    | @cons p q ps qs h t ih =>
      rw [List.map_cons, List.map_cons]
      refine .cons ?_ ih
      obtain ⟨g1, g2, g3⟩ := h
      unfold putAt
      by_cases z : p.1 = k
      · rw [if_pos z, if_pos (g1.symm.trans z)]; exact ⟨g1, g2, rv⟩
      · rw [if_neg z, if_neg (fun y => z (g1.trans y))]; exact ⟨g1, g2, g3⟩
  · rw [if_neg q, if_neg q]
    exact Paired.snoc r ⟨rfl, rfl, rv⟩
theorem putN_len (es : Ens) (k : NK) (A : Addr) (v : V) : (putN es k A v).length ≤ es.length + 1 := by
  unfold putN
  split <;> simp
/-! the key that a tracked thing is -/
mutual
def isN (H : Hp) : NK → V → Prop
  | .none, v => v = .non
  | .num i, v => v = .int i
  | .text x, v => v = .str x
  | .tup ks, v => ∃ a vs, v = .ref a ∧ H a = some (.tup vs) ∧ isNs H ks vs
def isNs (H : Hp) : List NK → List V → Prop
  | [], vs => vs = []
  | k :: ks, vs => ∃ v us, vs = v :: us ∧ isN H k v ∧ isNs H ks us
end
mutual
theorem isN.mono {G H : Hp} (g : ∀ a vs, G a = some (.tup vs) → H a = some (.tup vs)) : ∀ {k : NK} {v : V}, isN G k v → isN H k v
  | .none, v, h => by simpa only [isN] using h
  | .num i, v, h => by simpa only [isN] using h
  | .text x, v, h => by simpa only [isN] using h
  | .tup ks, v, h => by
    simp only [isN] at h ⊢
    obtain ⟨a, vs, e, q, t⟩ := h
    exact ⟨a, vs, e, g a vs q, isNs.mono g t⟩
theorem isNs.mono {G H : Hp} (g : ∀ a vs, G a = some (.tup vs) → H a = some (.tup vs)) : ∀ {ks : List NK} {vs : List V}, isNs G ks vs → isNs H ks vs
  | [], vs, h => by simpa only [isNs] using h
  | k :: ks, vs, h => by
    simp only [isNs] at h ⊢
    obtain ⟨v, us, e, q, t⟩ := h
    exact ⟨v, us, e, isN.mono g q, isNs.mono g t⟩
end
mutual
theorem isN_is {P : Program} {w : World} {H : Hp} {h : Heap} (ok : HOk P w H h) : ∀ {k : NK} {v : V} {u : Value}, isN H k v → RelV v u → NestedIs h k u
  | .none, v, u, q, r => by simp only [isN] at q; subst q; cases (show u = Value.none from r); exact .none
  | .num i, v, u, q, r => by simp only [isN] at q; subst q; obtain ⟨t, rfl⟩ := (show ∃ t, u = Value.int i t from r); exact .int i t
  | .text x, v, u, q, r => by simp only [isN] at q; subst q; obtain ⟨t, rfl⟩ := (show ∃ t, u = Value.str x t from r); exact .text x t
  | .tup ks, v, u, q, r => by
    simp only [isN] at q
    obtain ⟨a, vs, rfl, e, t⟩ := q
    cases (show u = Value.ref a from r)
    obtain ⟨_, its, rv, o, g1, g2, n, g3⟩ := (show ObjOk P w H h a (.tup vs) from ok a _ e)
    exact .tup g1 g2 g3 (by simpa using isNs_is ok t rv)
theorem isNs_is {P : Program} {w : World} {H : Hp} {h : Heap} (ok : HOk P w H h) : ∀ {ks : List NK} {vs : List V} {us : List Value}, isNs H ks vs → Vals vs us → NestedAll h ks us
  | [], vs, us, q, r => by simp only [isNs] at q; subst q; cases r; exact .nil
  | k :: ks, vs, us, q, r => by
    simp only [isNs] at q
    obtain ⟨v, ws, rfl, g, t⟩ := q
    cases r with
    | cons r1 r2 => exact .cons (isN_is ok g r1) (isNs_is ok t r2)
end
/-- the key k at A -/
def KeyOk (H : Hp) (k : NK) (A : Addr) : Prop := isN H k (.ref A) ∧ k.depth ≤ 8
theorem KeyOk.is {P : Program} {w : World} {H : Hp} {h : Heap} {k : NK} {A : Addr} (ok : HOk P w H h) (q : KeyOk H k A) : (nestedKind P w).is h k A := ⟨isN_is ok q.1 rfl, q.2⟩
theorem KeyOk.mono {G H : Hp} (g : ∀ a vs, G a = some (.tup vs) → H a = some (.tup vs)) {k : NK} {A : Addr} (q : KeyOk G k A) : KeyOk H k A := ⟨q.1.mono g, q.2⟩
def Keys (H : Hp) (es : Ens) : Prop := ∀ p ∈ es, KeyOk H p.1 p.2.1
theorem Keys.mono {G H : Hp} (g : ∀ a vs, G a = some (.tup vs) → H a = some (.tup vs)) {es : Ens} (q : Keys G es) : Keys H es := fun p hp => (q p hp).mono g
/-! the dict itself -/
def φN (w : World) (a : Addr) (es : Ens) (h : Heap) : Prop := es.length ≤ sizeLine ∧ (a == sysModules) = false ∧ (es.map (·.1)).Nodup ∧ ∃ xs : Exs, RN es xs ∧ ∃ o arr ep, h.get? a = some o ∧ o.ExactDict ∧ o.data = .dict arr ep ∧ arr.toList = xs.map fun x => (⟨x.1.hash w, .ref x.2.1, x.2.2⟩ : DictEntry)
def dN (w : World) (a : Addr) (es : Ens) : HO := .ext (φN w a es)
theorem φN.at {w : World} {a : Addr} {es : Ens} {h h' : Heap} (q : φN w a es h) (k : ∀ o, h.get? a = some o → h'.get? a = some o) : φN w a es h' :=
  let ⟨q1, q2, q3, xs, q4, o, arr, ep, q5, q6⟩ := q; ⟨q1, q2, q3, xs, q4, o, arr, ep, k _ q5, q6⟩
theorem dN_ok {P : Program} {w w' : World} {H : Hp} {a : Addr} {es : Ens} {h : Heap} (q : φN w a es h) : ObjOk P w' H h a (dN w a es) :=
  ⟨q, let ⟨_, _, _, _, _, o, _, _, e, _⟩ := q; ⟨o, e⟩, fun _ _ z k => z.at k⟩
theorem φN.dict {P : Program} {w : World} {H : Hp} {a : Addr} {es : Ens} {h : Heap} (q : φN w a es h) (ok : HOk P w H h) (ks : Keys H es) : es.length ≤ sizeLine ∧ (a == sysModules) = false ∧ ∃ xs : Exs, RN es xs ∧ h.DictOfH (nestedKind P w) a xs := by
  obtain ⟨q1, q2, q3, xs, q4, o, arr, ep, g1, g2, g3, g4⟩ := q
  refine ⟨q1, q2, xs, q4, o, arr, ep, g1, g2, g3, g4, ?_, by rw [← q4.keys]; exact q3⟩
  have all : ∀ {l : Ens} {m : Exs}, RN l m → Keys H l → ∀ x ∈ m, (nestedKind P w).is h x.1 x.2.1 := by
    intro l m r
    unfold RN at r
    induction r with
    | nil => intro _ x hx; exact nomatch hx
    | @cons p q ps qs hq t ih =>
      intro kk x hx
      rcases List.mem_cons.mp hx with e | hx
      · subst e
        rw [← hq.1, ← hq.2.1]
        exact (kk p List.mem_cons_self).is ok
      · exact ih (fun p hp => kk p (List.mem_cons_of_mem _ hp)) x hx
  exact all q4 ks
theorem φN.of {P : Program} {w : World} {a : Addr} {es : Ens} {xs : Exs} {h : Heap} (hl : es.length ≤ sizeLine) (hd : (a == sysModules) = false) (r : RN es xs) (dd : h.DictOfH (nestedKind P w) a xs) : φN w a es h := by
  obtain ⟨o, arr, ep, g1, g2, g3, g4, _, g5⟩ := dd
  exact ⟨hl, hd, by rw [r.keys]; exact g5, xs, r, o, arr, ep, g1, g2, g3, g4⟩
/-- read: a dict of such keys, or an empty one -/
def RdN (w : World) (H : Hp) (a : Addr) (es : Ens) : Prop := Rd H a (dN w a es) ∨ (es = [] ∧ Rd H a (.dK []))
theorem φN_nil {P : Program} {w : World} {a : Addr} {h : Heap} (hd : (a == sysModules) = false) {vs : List (Key × Value)} (r : KV [] vs) (dd : h.DictOf (mixKind P w) a vs) : φN w a [] h := by
  cases r
  obtain ⟨o, arr, ep, g1, g2, g3, g4, g5, g6⟩ := dd
  refine ⟨Nat.zero_le _, hd, List.nodup_nil, [], .nil, o, arr, ep, g1, g2, g3, ?_⟩
  generalize arr.toList = l at g5
  cases g5
  rfl
theorem RdN.phi {P : Program} {w : World} {H : Hp} {a : Addr} {es : Ens} {h : Heap} (ok : HOk P w H h) (q : RdN w H a es) : φN w a es h := by
  rcases q with q | ⟨rfl, q⟩
  · exact (show ObjOk P w H h a (dN w a es) from rd_of ok q).1
  · obtain ⟨_, hd, vs, r, dd⟩ := dk_rd ok q
    exact φN_nil hd r dd
/-- what it holds at y -/
def DGetN (w : World) (H : Hp) (a : Addr) (y : V) (r : Option V) : Prop := ∃ es k A, RdN w H a es ∧ y = .ref A ∧ KeyOk H k A ∧ Keys H es ∧ r = valN es k
def DPutN (w : World) (H : Hp) (a : Addr) (y v : V) (H' : Hp) : Prop := ∃ es k A, (H a = some (dN w a es) ∨ (es = [] ∧ H a = some (.dK []))) ∧ y = .ref A ∧ KeyOk H k A ∧ Keys H es ∧ es.length < sizeLine ∧ H' = upd H a (dN w a (putN es k A v))
def DGetA (w : World) (H : Hp) (a : Addr) (y : V) (r : Option V) : Prop := DGet H a y r ∨ DGetN w H a y r
def DPutA (w : World) (H : Hp) (a : Addr) (y v : V) (H' : Hp) : Prop := DPut H a y v H' ∨ DPutN w H a y v H'
def IsDA (w : World) (H : Hp) (a : Addr) : Prop := IsD H a ∨ ∃ es, RdN w H a es
section
variable {X : Cx} {pins : List (Addr × Obj)} {σ : L2.St} {H : Hp} {s : Shared} {a : Addr} {y v d : V} {u r : Value} {o : Option V} {A : Around} {E : Value → Shared → Prop}
theorem room_n (hu : A.units + 65 < cLine) : (nestedKind X.prog X.w).room A.in1 := by
  show A.in1.units + 8 < cLine
  have : A.in1.units = A.units + 1 := rfl
  omega
theorem nd_of (I : Inv X pins σ H s) {es : Ens} (q : RdN X.w H a es) (ks : Keys H es) : es.length ≤ sizeLine ∧ (a == sysModules) = false ∧ ∃ xs : Exs, RN es xs ∧ s.heap.DictOfH (nestedKind X.prog X.w) a xs := (q.phi I.hok).dict I.hok ks
theorem rel_some {xs : Exs} {es : Ens} {k : NK} {z : V} (rel : RN es xs) (l : some z = valN es k) : ∃ p, atKey xs k = some p ∧ RelV z p.2 := by
  have q := rel.val k
  rw [← l] at q
  cases h : atKey xs k with
  | none => rw [h] at q; exact (show False from q).elim
  | some p => rw [h] at q; exact ⟨p, rfl, q⟩
theorem rel_getD {xs : Exs} {es : Ens} {k : NK} (rel : RN es xs) {dv : V} {du : Value} (rd : RelV dv du) : RelV ((valN es k).getD dv) (((atKey xs k).map (·.2)).getD du) := by
  have q := rel.val k
  cases h1 : valN es k <;> cases h2 : atKey xs k <;> rw [h1, h2] at q
  · exact rd
  · exact (show False from q).elim
  · exact (show False from q).elim
  · exact q
theorem n_write {h' : Heap} {t' : Nat} {es es' : Ens} {xs : Exs} (I : Inv X pins σ H s) (e : H a = some (dN X.w a es) ∨ (es = [] ∧ H a = some (.dK []))) (hl : es'.length ≤ sizeLine) (hd : (a == sysModules) = false) (r : RN es' xs) (dd : h'.DictOfH (nestedKind X.prog X.w) a xs) (hs : Heap.SameBut a s.heap h') : Inv X pins σ (upd H a (dN X.w a es')) { s with heap := h', toks := t' } := by
  refine d_write I ?_ hs (let ⟨q, _, _, hq, _⟩ := dd; ⟨q, hq⟩) (dN_ok (φN.of hl hd r dd))
  rcases e with e | ⟨_, e⟩ <;> (rw [e]; exact True.intro)
theorem a_getItem {Q : Value → Shared → Prop} (hu : A.units + 65 < cLine) (I : Inv X pins σ H s) (g : DGetA X.w H a y (some v)) (ry : RelV y u) (h : ∀ w' s', Inv X pins σ H s' → RelV v w' → Q w' s') : wpAny (model X.prog X.w) A (getItem (.ref a) u) Q E s := by
  rcases g with g | ⟨es, k, B, q, rfl, kk, ks, l⟩
  · exact d_getItem (by omega) I g ry h
  · cases (show u = Value.ref B from ry)
    obtain ⟨_, hd, xs, rel, dd⟩ := nd_of I q ks
    obtain ⟨p, hp, rp⟩ := rel_some rel l
    exact wpAny_getItem_heap (room_n hu) (kk.is I.hok) dd hp (h p.2 _ (I.tok _) rp)
theorem a_in {Q : Value → Shared → Prop} (hu : A.units + 65 < cLine) (I : Inv X pins σ H s) (g : DGetA X.w H a y o) (ry : RelV y u) (h : ∀ s', Inv X pins σ H s' → Q (.bool o.isSome) s') : wpAny (model X.prog X.w) A (compareOp .In u (.ref a)) Q E s := by
  rcases g with g | ⟨es, k, B, q, rfl, kk, ks, l⟩
  · exact d_in (by omega) I g ry h
  · cases (show u = Value.ref B from ry)
    obtain ⟨_, hd, xs, rel, dd⟩ := nd_of I q ks
    refine wpAny_in_heap (room_n hu) (kk.is I.hok) hd dd ?_
    rw [← rel.isSome k, ← l]
    exact h _ (I.tok _)
theorem a_notIn {Q : Value → Shared → Prop} (hu : A.units + 65 < cLine) (I : Inv X pins σ H s) (g : DGetA X.w H a y o) (ry : RelV y u) (h : ∀ s', Inv X pins σ H s' → Q (.bool (!o.isSome)) s') : wpAny (model X.prog X.w) A (compareOp .NotIn u (.ref a)) Q E s := by
  rcases g with g | ⟨es, k, B, q, rfl, kk, ks, l⟩
  · exact d_notIn (by omega) I g ry h
  · cases (show u = Value.ref B from ry)
    obtain ⟨_, hd, xs, rel, dd⟩ := nd_of I q ks
    refine wpAny_notIn_heap (room_n hu) (kk.is I.hok) hd dd ?_
    rw [← rel.isSome k, ← l]
    exact h _ (I.tok _)
theorem a_setItem {H' : Hp} {Q : Unit → Shared → Prop} (hu : A.units + 65 < cLine) (I : Inv X pins σ H s) (g : DPutA X.w H a y v H') (ry : RelV y u) (rv : RelV v r) (h : ∀ s', Inv X pins σ H' s' → Q () s') : wpAny (model X.prog X.w) A (setItem (.ref a) u r) Q E s := by
  rcases g with g | ⟨es, k, B, q, rfl, kk, ks, hl, rfl⟩
  · exact d_setItem (by omega) I g ry rv h
  · cases (show u = Value.ref B from ry)
    have q' : RdN X.w H a es := q.imp (fun z => .inl z) fun z => ⟨z.1, .inl z.2⟩
    obtain ⟨z, hd, xs, rel, dd⟩ := nd_of I q' ks
    have hz : xs.length ≤ sizeLine := by rw [← rel.len]; exact z
    have hp := putN_len es k B v
    exact wpAny_setItem_heap (hsz := hz) (room_n hu) (kk.is I.hok) dd fun h' dd' hs => h _ (n_write I q (by omega) hd (rel.put k B rv) dd' hs)
theorem a_get1 {Q : Value → Shared → Prop} (hu : A.units + 65 < cLine) (I : Inv X pins σ H s) (g : DGetA X.w H a y o) (ry : RelV y u) (h : ∀ w' s', Inv X pins σ H s' → RelV (o.getD .non) w' → Q w' s') : wpAny (model X.prog X.w) A (call (.builtin "dict.get") [.ref a, u]) Q E s := by
  rcases g with g | ⟨es, k, B, q, rfl, kk, ks, l⟩
  · exact d_get1 (by omega) I g ry h
  · cases (show u = Value.ref B from ry)
    obtain ⟨_, hd, xs, rel, dd⟩ := nd_of I q ks
    refine call_meetsIn PySem.F.slot_dict_get dd.typeIs PySem.F.entry_dict_get (PySem.F.args_dict_get_2 _ _) (meetsH_dict_get (nestedKind X.prog X.w) a B hd) ⟨room_n hu, k, xs, kk.is I.hok, dd, h _ _ (I.tok _) ?_⟩
    rw [l]
    exact rel_getD rel rfl
theorem isA_at (I : Inv X pins σ H s) (g : IsDA X.w H a) : s.TypeIs (.ref a) "dict" ∧ (∀ b, Value.ref a = .ref b → ∃ ob, s.heap.get? b = some ob ∧ ob.dict = none) ∧ (a == sysModules) = false := by
  rcases g with g | ⟨es, q⟩
  · exact isD_at I g
  · obtain ⟨_, hd, _, xs, _, ob, arr, ep, g1, g2, g3, _⟩ := q.phi I.hok
    exact ⟨⟨ob, g1, g2.1⟩, fun b z => by cases z; exact ⟨ob, g1, g2.2.1⟩, hd⟩
theorem dictA_typeIs (I : Inv X pins σ H s) (g : DGetA X.w H a y o) : s.TypeIs (.ref a) "dict" := by
  rcases g with g | ⟨es, k, B, q, _⟩
  · exact dict_typeIs I g
  · exact (isA_at I (.inr ⟨es, q⟩)).1
end
/-! ## the rules -/
def tAGet1 (w : World) (td ty : TE) : TE := fun σ H Q => td σ H fun x H1 => ∃ a, x = .ref a ∧ IsDA w H1 a ∧ ty σ H1 fun y H2 => ∃ o, DGetA w H2 a y o ∧ Q (o.getD .non) H2
def tAGet2 (w : World) (td ty tx : TE) : TE := fun σ H Q => td σ H fun x H1 => ∃ a, x = .ref a ∧ IsDA w H1 a ∧ ty σ H1 fun y H2 => tx σ H2 fun z H3 => ∃ o, DGetA w H3 a y o ∧ Q (o.getD z) H3
section
variable {X : Cx} {ex ek ed : Expr} {ap cp : Pos} {td ty tx : TE}
theorem pe_aget1 (hu : X.A.units + 65 < cLine) (ho : PE X ex td) (he : PE X ek ty) (m : M1 X ex "get" ap ek cp) : PE X (.Call (.Attribute ex "get" ap) [ek] [] cp) (tAGet1 X.w td ty) := by
  refine ⟨fun pins s σ H Q I h0 => wpAny_Call_method m.base m.few m.line PySem.F.plainAttrs_dict PySem.F.slot_dict_get PySem.F.type_dict_get (thn (ho.run pins s σ H _ I h0) fun u s1 ⟨x, H1, I1, rx, a, hx, dd, q1⟩ => ?_)⟩
  subst hx
  obtain rfl : u = Value.ref a := rx
  have tt := isA_at (σ := σ) I1 dd
  refine ⟨tt.1, tt.2.1, ?_⟩
  rw [m.trees]
  refine Calls.callWith_builtin rfl (Calls.evalArgs_plain (Calls.spliced_cons (thn (he.run pins s1 σ H1 _ I1 q1) fun iv s2 ⟨y, H2, I2, ry, ov, g, q2⟩ => Calls.spliced_nil (a_get1 hu I2 g ry fun w' s3 I3 rw' => ⟨_, H2, I3, rw', q2⟩))))
/-- the store, by values -/
def rSetDA (w : World) : TSet := fun o i v H Q => ∃ a H', o = .ref a ∧ DPutA w H a i v H' ∧ Q H'
theorem setA_dict (hu : X.A.units + 65 < cLine) : PSet X (rSetDA X.w) := by
  rintro pins s σ H o i v ov iv u Q I ro ri rv ⟨a, H', rfl, g, q⟩
  cases (show ov = Value.ref a from ro)
  exact a_setItem hu I g ri rv fun s' I' => ⟨H', I', q⟩
end
end KN
set_option maxHeartbeats 1000000
namespace Mir
open PySem PySem.Spec PyProof.Rows L2
/-! ## plain data -/
inductive D where
  | non | bl (b : Bool) | int (i : Int) | str (x : Str) | ty (n : String)
  /-- a live thing: the store's cell -/
  | cell (c : Nat)
  | tup (xs : List D) | lst (xs : List D) | frl (xs : List D) | dic (kvs : List (Key × D)) | dct (kvs : List (KN.NK × D)) | ins (C : Addr) (fs : List (Str × D))
  /-- (in the store alone) a dict that a loop walks -/
  | lck (d : D)
instance : Inhabited D := ⟨.non⟩
/-! ## heaps -/
def isDict : HO → Bool
  | .dK _ => true
  | .dT _ => true
  | .ext _ => true
  | _ => false
def core : HO → HO
  | .frz o u => if isDict u = true then u else .frz o u
  | u => u
/-- all of G stands in H (a dict may be locked or not) -/
def Sub (G H : Hp) : Prop := ∀ a u, G a = some u → ∃ u', H a = some u' ∧ core u' = core u
theorem Sub.refl (G : Hp) : Sub G G := fun _ u h => ⟨u, h, rfl⟩
theorem Sub.trans {A B C : Hp} (h : Sub A B) (k : Sub B C) : Sub A C := fun a u e => by
  obtain ⟨u1, e1, c1⟩ := h a u e
  obtain ⟨u2, e2, c2⟩ := k a u1 e1
  exact ⟨u2, e2, c2.trans c1⟩
theorem core_lst {u : HO} {xs : List V} (h : core u = .lst xs) : u = .lst xs := by
  cases u <;> simp only [core] at h <;> try (exact h)
  split at h
  · rename_i ob v hd
    rw [h] at hd; cases hd
  · cases h
theorem core_tup {u : HO} {xs : List V} (h : core u = .tup xs) : u = .tup xs := by
  cases u <;> simp only [core] at h <;> try (exact h)
  split at h
  · rename_i ob v hd
    rw [h] at hd; cases hd
  · cases h
theorem core_ins {u : HO} {C dx : Addr} {fs : List (Str × V)} (h : core u = .ins C dx fs) : u = .ins C dx fs := by
  cases u <;> simp only [core] at h <;> try (exact h)
  split at h
  · rename_i ob v hd
    rw [h] at hd; cases hd
  · cases h
theorem core_dK {u : HO} {kvs : List (Key × V)} (h : core u = .dK kvs) : u = .dK kvs ∨ ∃ o, u = .frz o (.dK kvs) := by
  cases u <;> simp only [core] at h <;> try (exact .inl h)
  split at h
  · rename_i ob v hd
    exact .inr ⟨ob, by rw [h]⟩
  · cases h
theorem core_dT {u : HO} {kvs : List (List Key × V)} (h : core u = .dT kvs) : u = .dT kvs ∨ ∃ o, u = .frz o (.dT kvs) := by
  cases u <;> simp only [core] at h <;> try (exact .inl h)
  split at h
  · rename_i ob v hd
    exact .inr ⟨ob, by rw [h]⟩
  · cases h
theorem core_ext {u : HO} {φ : Heap → Prop} (h : core u = .ext φ) : u = .ext φ ∨ ∃ o, u = .frz o (.ext φ) := by
  cases u <;> simp only [core] at h <;> try (exact .inl h)
  split at h
  · rename_i ob v hd
    exact .inr ⟨ob, by rw [h]⟩
  · cases h
theorem core_frz {u : HO} {o : Obj} {v : HO} (hv : isDict v = false) (h : core u = .frz o v) : u = .frz o v := by
  cases u <;> simp only [core] at h <;> try (cases h)
  split at h
  · rename_i ob v' hd
    rw [h] at hd; cases hd
  · exact h
theorem Sub.rd_lst {G H : Hp} (s : Sub G H) {a : Addr} {xs : List V} (h : Rd G a (.lst xs)) : Rd H a (.lst xs) := by
  rcases h with h | ⟨o, h⟩
  · obtain ⟨u, e, c⟩ := s a _ h
    rw [core_lst c] at e; exact .inl e
  · obtain ⟨u, e, c⟩ := s a _ h
    have c' : core u = .frz o (.lst xs) := by rw [c]; rfl
    rw [core_frz rfl c'] at e; exact .inr ⟨o, e⟩
theorem Sub.rd_dK {G H : Hp} (s : Sub G H) {a : Addr} {xs : List (Key × V)} (h : Rd G a (.dK xs)) : Rd H a (.dK xs) := by
  rcases h with h | ⟨o, h⟩ <;> (obtain ⟨u, e, c⟩ := s a _ h; rcases core_dK (u := u) (by rw [c]; rfl) with r | ⟨o', r⟩ <;> rw [r] at e)
  · exact .inl e
  · exact .inr ⟨_, e⟩
  · exact .inl e
  · exact .inr ⟨_, e⟩
theorem Sub.rd_dT {G H : Hp} (s : Sub G H) {a : Addr} {xs : List (List Key × V)} (h : Rd G a (.dT xs)) : Rd H a (.dT xs) := by
  rcases h with h | ⟨o, h⟩ <;> (obtain ⟨u, e, c⟩ := s a _ h; rcases core_dT (u := u) (by rw [c]; rfl) with r | ⟨o', r⟩ <;> rw [r] at e)
  · exact .inl e
  · exact .inr ⟨_, e⟩
  · exact .inl e
  · exact .inr ⟨_, e⟩
theorem Sub.rd_ext {G H : Hp} (s : Sub G H) {a : Addr} {φ : Heap → Prop} (h : Rd G a (.ext φ)) : Rd H a (.ext φ) := by
  rcases h with h | ⟨o, h⟩ <;> (obtain ⟨u, e, c⟩ := s a _ h; rcases core_ext (u := u) (by rw [c]; rfl) with r | ⟨o', r⟩ <;> rw [r] at e)
  · exact .inl e
  · exact .inr ⟨_, e⟩
  · exact .inl e
  · exact .inr ⟨_, e⟩
theorem Sub.ins {G H : Hp} (s : Sub G H) {a C dx : Addr} {fs : List (Str × V)} (h : G a = some (.ins C dx fs)) : H a = some (.ins C dx fs) := by
  obtain ⟨u, e, c⟩ := s a _ h
  rw [core_ins c] at e; exact e
theorem Sub.lst {G H : Hp} (s : Sub G H) {a : Addr} {xs : List V} (h : G a = some (.lst xs)) : H a = some (.lst xs) := by
  obtain ⟨u, e, c⟩ := s a _ h
  rw [core_lst c] at e; exact e
theorem Sub.tup {G H : Hp} (s : Sub G H) {a : Addr} {xs : List V} (h : G a = some (.tup xs)) : H a = some (.tup xs) := by
  obtain ⟨u, e, c⟩ := s a _ h
  rw [core_tup c] at e; exact e
theorem Sub.sqL {K : PySem.W.Frag} {G H : Hp} (s : Sub G H) {a : Addr} {xs : List V} (h : SqL K G a xs) : SqL K H a xs := h.elim (fun h => .inl (s.rd_lst h)) .inr
theorem Sub.is {G H : Hp} (s : Sub G H) {a : Addr} {u : HO} (h : G a = some u) : H a ≠ none := by
  obtain ⟨u', e, _⟩ := s a u h
  rw [e]; simp
theorem Sub.no {G H : Hp} (s : Sub G H) {a : Addr} (h : H a = none) : G a = none := by
  cases e : G a with
  | none => rfl
  | some u => exact absurd h (s.is e)
theorem Sub.new {H : Hp} {p : Addr} {o : HO} (h : H p = none) : Sub H (upd H p o) := fun a u e => ⟨u, by rw [upd_ne (ne_of_none e h)]; exact e, rfl⟩
theorem Sub.both {G H : Hp} (s : Sub G H) {p : Addr} {o : HO} : Sub (upd G p o) (upd H p o) := fun a u e => by
  by_cases h : a = p
  · subst h; rw [upd_same] at e; cases e; exact ⟨_, upd_same, rfl⟩
  · rw [upd_ne h] at e ⊢; exact s a u e
/-- what G does not know may change -/
theorem Sub.mut {G H : Hp} (s : Sub G H) {p : Addr} {o : HO} (h : G p = none) : Sub G (upd H p o) := fun a u e => by
  rw [upd_ne (ne_of_none e h)]; exact s a u e
theorem Sub.cover {G H : Hp} (s : Sub G H) {p : Addr} {o : HO} (h : H p = some o) : Sub (upd G p o) H := fun a u e => by
  by_cases h' : a = p
  · subst h'; rw [upd_same] at e; cases e; exact ⟨_, h, rfl⟩
  · rw [upd_ne h'] at e; exact s a u e
/-- the text's fragment and its world -/
structure KW where
  k : PySem.W.Frag
  w : World
instance : Coe KW PySem.W.Frag := ⟨KW.k⟩
abbrev _root_.L2.Cx.kw (X : L2.Cx) : KW := ⟨X.K, X.w⟩
/-! ## worlds: what is frozen, where the cells stand -/
structure Wd where
  g : Hp
  b : List Addr
structure Le (W W' : Wd) : Prop where
  s : Sub W.g W'.g
  p : ∀ (c : Nat) (a : Addr), W.b[c]? = some a → W'.b[c]? = some a
theorem Le.refl (W : Wd) : Le W W := ⟨Sub.refl _, fun _ _ h => h⟩
theorem Le.trans {A B C : Wd} (h : Le A B) (k : Le B C) : Le A C := ⟨h.s.trans k.s, fun c a e => k.p c a (h.p c a e)⟩
abbrev Wd.up (W : Wd) (p : Addr) (o : HO) : Wd := ⟨upd W.g p o, W.b⟩
theorem Le.new {W : Wd} {p : Addr} {o : HO} (h : W.g p = none) : Le W (W.up p o) := ⟨Sub.new h, fun _ _ e => e⟩
abbrev Wd.add (W : Wd) (p : Addr) : Wd := ⟨W.g, W.b ++ [p]⟩
theorem Le.add {W : Wd} {p : Addr} : Le W (W.add p) := ⟨Sub.refl _, fun c a e => by
  show (W.b ++ [p])[c]? = some a
  rw [List.getElem?_append_left (List.getElem?_eq_some_iff.mp e).1]; exact e⟩
/-! ## data at a value -/
mutual
def RepD (K : KW) (W : Wd) : D → V → Prop
  | .non, v => v = .non
  | .bl b, v => v = .bl b
  | .int i, v => v = .int i
  | .str x, v => v = .str x
  | .ty n, v => v = .ty n
  | .cell c, v => ∃ a, W.b[c]? = some a ∧ v = .ref a
  | .lck _, _ => False
  | .tup ds, v => ∃ a vs, v = .ref a ∧ W.g a = some (.tup vs) ∧ RepL K W ds vs
  | .lst ds, v => ∃ a vs, v = .ref a ∧ W.g a = some (.lst vs) ∧ RepL K W ds vs
  | .frl ds, v => ∃ a vs, v = .ref a ∧ SqL K W.g a vs ∧ RepL K W ds vs
  | .dic kvs, v => ∃ a us, v = .ref a ∧ Rd W.g a (.dK us) ∧ RepK K W kvs us
  | .dct kvs, v => ∃ a us, v = .ref a ∧ Rd W.g a (KN.dN K.w a us) ∧ RepKT K W kvs us
  | .ins C fs, v => ∃ a dx us, v = .ref a ∧ W.g a = some (.ins C dx us) ∧ RepF K W fs us
def RepL (K : KW) (W : Wd) : List D → List V → Prop
  | [], vs => vs = []
  | d :: ds, vs => ∃ v us, vs = v :: us ∧ RepD K W d v ∧ RepL K W ds us
def RepK (K : KW) (W : Wd) : List (Key × D) → List (Key × V) → Prop
  | [], vs => vs = []
  | (k, d) :: ds, vs => ∃ v us, vs = (k, v) :: us ∧ RepD K W d v ∧ RepK K W ds us
def RepKT (K : KW) (W : Wd) : List (KN.NK × D) → KN.Ens → Prop
  | [], vs => vs = []
  | (k, d) :: ds, vs => ∃ A v us, vs = (k, A, v) :: us ∧ KN.KeyOk W.g k A ∧ RepD K W d v ∧ RepKT K W ds us
def RepF (K : KW) (W : Wd) : List (Str × D) → List (Str × V) → Prop
  | [], vs => vs = []
  | (k, d) :: ds, vs => ∃ v us, vs = (k, v) :: us ∧ RepD K W d v ∧ RepF K W ds us
end
section mono
variable {K : KW} {W W' : Wd}
mutual
theorem RepD.mono (s : Le W W') : ∀ {d : D} {v : V}, RepD K W d v → RepD K W' d v
  | .non, v, h => by simpa only [RepD] using h
  | .bl b, v, h => by simpa only [RepD] using h
  | .int i, v, h => by simpa only [RepD] using h
  | .str x, v, h => by simpa only [RepD] using h
  | .ty n, v, h => by simpa only [RepD] using h
  | .cell c, v, h => by
    simp only [RepD] at h ⊢
    obtain ⟨a, e, q⟩ := h
    exact ⟨a, s.p c a e, q⟩
  | .lck _, v, h => by simp only [RepD] at h
  | .tup ds, v, h => by
    simp only [RepD] at h ⊢
    obtain ⟨a, vs, e, q, r⟩ := h
    exact ⟨a, vs, e, s.s.tup q, RepL.mono s r⟩
  | .lst ds, v, h => by
    simp only [RepD] at h ⊢
    obtain ⟨a, vs, e, q, r⟩ := h
    exact ⟨a, vs, e, s.s.lst q, RepL.mono s r⟩
  | .frl ds, v, h => by
    simp only [RepD] at h ⊢
    obtain ⟨a, vs, e, q, r⟩ := h
    exact ⟨a, vs, e, s.s.sqL q, RepL.mono s r⟩
  | .dic ds, v, h => by
    simp only [RepD] at h ⊢
    obtain ⟨a, vs, e, q, r⟩ := h
    exact ⟨a, vs, e, s.s.rd_dK q, RepK.mono s r⟩
  | .dct ds, v, h => by
    simp only [RepD] at h ⊢
    obtain ⟨a, vs, e, q, r⟩ := h
    exact ⟨a, vs, e, s.s.rd_ext q, RepKT.mono s r⟩
  | .ins C fs, v, h => by
    simp only [RepD] at h ⊢
    obtain ⟨a, dx, us, e, q, r⟩ := h
    exact ⟨a, dx, us, e, s.s.ins q, RepF.mono s r⟩
theorem RepL.mono (s : Le W W') : ∀ {d : List D} {v : List V}, RepL K W d v → RepL K W' d v
  | [], v, h => by simpa only [RepL] using h
  | d :: ds, v, h => by
    simp only [RepL] at h ⊢
    obtain ⟨x, us, e, q, r⟩ := h
    exact ⟨x, us, e, RepD.mono s q, RepL.mono s r⟩
theorem RepK.mono (s : Le W W') : ∀ {d : List (Key × D)} {v : List (Key × V)}, RepK K W d v → RepK K W' d v
  | [], v, h => by simpa only [RepK] using h
  | (k, d) :: ds, v, h => by
    simp only [RepK] at h ⊢
    obtain ⟨x, us, e, q, r⟩ := h
    exact ⟨x, us, e, RepD.mono s q, RepK.mono s r⟩
theorem RepKT.mono (s : Le W W') : ∀ {d : List (KN.NK × D)} {v : KN.Ens}, RepKT K W d v → RepKT K W' d v
  | [], v, h => by simpa only [RepKT] using h
  | (k, d) :: ds, v, h => by
    simp only [RepKT] at h ⊢
    obtain ⟨A, x, us, e, z, q, r⟩ := h
    exact ⟨A, x, us, e, z.mono fun _ _ y => s.s.tup y, RepD.mono s q, RepKT.mono s r⟩
theorem RepF.mono (s : Le W W') : ∀ {d : List (Str × D)} {v : List (Str × V)}, RepF K W d v → RepF K W' d v
  | [], v, h => by simpa only [RepF] using h
  | (k, d) :: ds, v, h => by
    simp only [RepF] at h ⊢
    obtain ⟨x, us, e, q, r⟩ := h
    exact ⟨x, us, e, RepD.mono s q, RepF.mono s r⟩
end
end mono
end Mir
set_option maxHeartbeats 1000000
namespace Mir
open PySem PySem.Spec PyProof.Rows L2
/-! ## what a mirror gives -/
structure Exn where
  cls : Addr
  fs : List (Str × D)
abbrev Sto := List D
inductive Out (α : Type) where
  | ok (a : α)
  | exc (x : Exn) (st : Sto)
  | stuck
def Out.bnd {α β : Type} (m : Out α) (f : α → Out β) : Out β := match m with
  | .ok a => f a
  | .exc x st => .exc x st
  | .stuck => .stuck
@[simp] theorem bnd_ok {α β : Type} (a : α) (f : α → Out β) : Out.bnd (.ok a) f = f a := rfl
@[simp] theorem bnd_exc {α β : Type} (x : Exn) (st : Sto) (f : α → Out β) : Out.bnd (.exc x st) f = .exc x st := rfl
@[simp] theorem bnd_stuck {α β : Type} (f : α → Out β) : Out.bnd .stuck f = .stuck := rfl
structure RE where
  s : List (Option D)
  st : Sto
@[simp] def RE.put (r : RE) (i : Nat) (d : Option D) : RE := ⟨r.s.set i d, r.st⟩
/-- what stands in a cell, or the thing itself -/
@[simp] def dr (st : Sto) : D → Option D
  | .cell c => match st[c]? with
    | some (.lck (.lst ds)) => some (.frl ds)
    | some (.lck d) => some d
    | x => x
  | d => some d
/-! ## owned things -/
def Own (K : KW) (H : Hp) (W : Wd) : D → V → Prop
  | .lst ds, v => ∃ a vs, v = .ref a ∧ H a = some (.lst vs) ∧ RepL K W ds vs
  | .dic kvs, v => ∃ a us, v = .ref a ∧ H a = some (.dK us) ∧ RepK K W kvs us
  | .dct kvs, v => ∃ a us, v = .ref a ∧ H a = some (KN.dN K.w a us) ∧ RepKT K W kvs us
  | .ins C fs, v => ∃ a dx us, v = .ref a ∧ H a = some (.ins C dx us) ∧ RepF K W fs us
  | .lck (.lst ds), v => ∃ a vs o, v = .ref a ∧ H a = some (.frz o (.lst vs)) ∧ RepL K W ds vs
  | .lck (.dic kvs), v => ∃ a us o, v = .ref a ∧ H a = some (.frz o (.dK us)) ∧ RepK K W kvs us
  | .lck (.dct kvs), v => ∃ a us o, v = .ref a ∧ H a = some (.frz o (KN.dN K.w a us)) ∧ RepKT K W kvs us
  | _, _ => False
/-- as an operand: its own object as it stands in H, its parts in W -/
def RepT (K : KW) (H : Hp) (W : Wd) : D → V → Prop
  | .tup ds, v => ∃ a vs, v = .ref a ∧ W.g a = some (.tup vs) ∧ RepL K W ds vs
  | .lst ds, v => ∃ a vs, v = .ref a ∧ H a = some (.lst vs) ∧ RepL K W ds vs
  | .frl ds, v => ∃ a vs, v = .ref a ∧ SqL K H a vs ∧ RepL K W ds vs
  | .dic kvs, v => ∃ a us, v = .ref a ∧ Rd H a (.dK us) ∧ RepK K W kvs us
  | .dct kvs, v => ∃ a us, v = .ref a ∧ Rd H a (KN.dN K.w a us) ∧ RepKT K W kvs us
  | .ins C fs, v => ∃ a dx us, v = .ref a ∧ H a = some (.ins C dx us) ∧ RepF K W fs us
  | d, v => RepD K W d v
theorem RepT.of {K : KW} {H : Hp} {W : Wd} (s : Sub W.g H) : ∀ {d : D} {v : V}, RepD K W d v → RepT K H W d v
  | .non, v, h => h
  | .bl b, v, h => h
  | .int i, v, h => h
  | .str x, v, h => h
  | .ty n, v, h => h
  | .cell n, v, h => h
  | .lck n, v, h => h
  | .tup ds, v, h => by
    simp only [RepD] at h
    obtain ⟨a, vs, e, q, r⟩ := h
    exact ⟨a, vs, e, q, r⟩
  | .lst ds, v, h => by
    simp only [RepD] at h
    obtain ⟨a, vs, e, q, r⟩ := h
    exact ⟨a, vs, e, s.lst q, r⟩
  | .frl ds, v, h => by
    simp only [RepD] at h
    obtain ⟨a, vs, e, q, r⟩ := h
    exact ⟨a, vs, e, s.sqL q, r⟩
  | .dic ds, v, h => by
    simp only [RepD] at h
    obtain ⟨a, vs, e, q, r⟩ := h
    exact ⟨a, vs, e, s.rd_dK q, r⟩
  | .dct ds, v, h => by
    simp only [RepD] at h
    obtain ⟨a, vs, e, q, r⟩ := h
    exact ⟨a, vs, e, s.rd_ext q, r⟩
  | .ins C ds, v, h => by
    simp only [RepD] at h
    obtain ⟨a, dx, vs, e, q, r⟩ := h
    exact ⟨a, dx, vs, e, s.ins q, r⟩
theorem Own.ref {K : KW} {H : Hp} {W : Wd} {d : D} {v : V} (h : Own K H W d v) : ∃ a u, v = .ref a ∧ H a = some u := by
  unfold Own at h
  split at h
  · obtain ⟨a, us, e, q, r⟩ := h; exact ⟨a, _, e, q⟩
  · obtain ⟨a, us, e, q, r⟩ := h; exact ⟨a, _, e, q⟩
  · obtain ⟨a, us, e, q, r⟩ := h; exact ⟨a, _, e, q⟩
  · obtain ⟨a, dx, us, e, q, r⟩ := h; exact ⟨a, _, e, q⟩
  · obtain ⟨a, us, o, e, q, r⟩ := h; exact ⟨a, _, e, q⟩
  · obtain ⟨a, us, o, e, q, r⟩ := h; exact ⟨a, _, e, q⟩
  · obtain ⟨a, us, o, e, q, r⟩ := h; exact ⟨a, _, e, q⟩
  · exact h.elim
theorem Own.mono {K : KW} {H H' : Hp} {W W' : Wd} {d : D} {a : Addr} (s : Le W W') (k : ∀ u, H a = some u → H' a = some u) (h : Own K H W d (.ref a)) : Own K H' W' d (.ref a) := by
  unfold Own at h ⊢
  split at h
  · obtain ⟨b, us, e, q, r⟩ := h; cases e; exact ⟨a, us, rfl, k _ q, r.mono s⟩
  · obtain ⟨b, us, e, q, r⟩ := h; cases e; exact ⟨a, us, rfl, k _ q, r.mono s⟩
  · obtain ⟨b, us, e, q, r⟩ := h; cases e; exact ⟨a, us, rfl, k _ q, r.mono s⟩
  · obtain ⟨b, dx, us, e, q, r⟩ := h; cases e; exact ⟨a, dx, us, rfl, k _ q, r.mono s⟩
  · obtain ⟨b, us, o, e, q, r⟩ := h; cases e; exact ⟨a, us, o, rfl, k _ q, r.mono s⟩
  · obtain ⟨b, us, o, e, q, r⟩ := h; cases e; exact ⟨a, us, o, rfl, k _ q, r.mono s⟩
  · obtain ⟨b, us, o, e, q, r⟩ := h; cases e; exact ⟨a, us, o, rfl, k _ q, r.mono s⟩
  · exact h.elim
@[simp] def unlck : D → D
  | .lck (.lst ds) => .frl ds
  | .lck d => d
  | d => d
theorem RepT.own {K : KW} {H : Hp} {W : Wd} {d : D} {v : V} (h : Own K H W d v) : RepT K H W (unlck d) v := by
  unfold Own at h
  split at h
  · exact h
  · obtain ⟨a, us, e, q, r⟩ := h; exact ⟨a, us, e, .inl q, r⟩
  · obtain ⟨a, us, e, q, r⟩ := h; exact ⟨a, us, e, .inl q, r⟩
  · exact h
  · obtain ⟨a, us, o, e, q, r⟩ := h; exact ⟨a, us, e, .inl (.inr ⟨o, q⟩), r⟩
  · obtain ⟨a, us, o, e, q, r⟩ := h; exact ⟨a, us, e, .inr ⟨o, q⟩, r⟩
  · obtain ⟨a, us, o, e, q, r⟩ := h; exact ⟨a, us, e, .inr ⟨o, q⟩, r⟩
  · exact h.elim
/-- an owned thing, once its object is known to W -/
theorem Own.at {K : KW} {H : Hp} {W W' : Wd} {d : D} {a : Addr} {u : HO} (s : Le W W') (hu : H a = some u) (hg : W'.g a = some u) (h : Own K H W d (.ref a)) : RepD K W' (unlck d) (.ref a) := by
  unfold Own at h
  split at h
  · obtain ⟨b, us, e, q, r⟩ := h; cases e; rw [hu] at q; cases q; simp only [unlck, RepD]; exact ⟨a, us, rfl, hg, r.mono s⟩
  · obtain ⟨b, us, e, q, r⟩ := h; cases e; rw [hu] at q; cases q; simp only [unlck, RepD]; exact ⟨a, us, rfl, .inl hg, r.mono s⟩
  · obtain ⟨b, us, e, q, r⟩ := h; cases e; rw [hu] at q; cases q; simp only [unlck, RepD]; exact ⟨a, us, rfl, .inl hg, r.mono s⟩
  · obtain ⟨b, dx, us, e, q, r⟩ := h; cases e; rw [hu] at q; cases q; simp only [unlck, RepD]; exact ⟨a, dx, us, rfl, hg, r.mono s⟩
  · obtain ⟨b, us, o, e, q, r⟩ := h; cases e; rw [hu] at q; cases q; simp only [unlck, RepD]; exact ⟨a, us, rfl, .inl (.inr ⟨o, hg⟩), r.mono s⟩
  · obtain ⟨b, us, o, e, q, r⟩ := h; cases e; rw [hu] at q; cases q; simp only [unlck, RepD]; exact ⟨a, us, rfl, .inr ⟨o, hg⟩, r.mono s⟩
  · obtain ⟨b, us, o, e, q, r⟩ := h; cases e; rw [hu] at q; cases q; simp only [unlck, RepD]; exact ⟨a, us, rfl, .inr ⟨o, hg⟩, r.mono s⟩
  · exact h.elim
/-! ## the relation of a frame -/
structure Fm where
  He : Hp
  W0 : Wd
  /-- what is locked just now -/
  lk : List (Addr × Obj × HO)
/-- H as it may stand behind the entry He -/
def Kept (c : Fm) (H : Hp) : Prop := ∀ a u, c.He a = some u → (a ∉ c.W0.b → (∃ u', H a = some u' ∧ core u' = core u) ∧ (c.W0.g a = none → H a = some u)) ∧ ∀ o v, u = .frz o v → H a = some u
structure RR (K : KW) (c : Fm) (σ : L2.St) (H : Hp) (W : Wd) (r : RE) : Prop where
  gh : Sub W.g H
  g0 : Le c.W0 W
  gr : ∀ a u, W.g a = some u → c.W0.g a ≠ none ∨ c.He a = none
  ke : Kept c H
  xk : ∀ a ∈ c.W0.b, H a ≠ none
  len : σ.length = r.s.length
  sl : ∀ (i : Nat) (d : D), r.s[i]? = some (some d) → ∃ v, σ[i]? = some (some v) ∧ RepD K W d v
  cl : W.b.length = r.st.length
  ce : ∀ (i : Nat) (d : D) (a : Addr), r.st[i]? = some d → W.b[i]? = some a → Own K H W d (.ref a)
  cg : ∀ a ∈ W.b, W.g a = none ∧ (a ∈ c.W0.b ∨ c.He a = none)
  cn : W.b.Nodup
  lk : ∀ p ∈ c.lk, H p.1 = some (.frz p.2.1 p.2.2)
/-- a pure step: new frozen objects alone -/
structure Ext (H : Hp) (W : Wd) (H' : Hp) (W' : Wd) : Prop where
  keep : ∀ a u, H a = some u → H' a = some u
  sub : Le W W'
  in_ : Sub W'.g H'
  new : ∀ a u, W'.g a = some u → W.g a ≠ none ∨ H a = none
  bb : W'.b = W.b
theorem Ext.refl {H : Hp} {W : Wd} (s : Sub W.g H) : Ext H W H W := ⟨fun _ _ h => h, Le.refl W, s, fun _ _ h => .inl (by rw [h]; simp), rfl⟩
theorem Ext.trans {H H1 H2 : Hp} {W W1 W2 : Wd} (a : Ext H W H1 W1) (b : Ext H1 W1 H2 W2) : Ext H W H2 W2 :=
  ⟨fun x u h => b.keep x u (a.keep x u h), a.sub.trans b.sub, b.in_, fun x u h => by
    rcases b.new x u h with h1 | h1
    · cases e : W1.g x with
      | none => exact absurd e h1
      | some u1 => exact a.new x u1 e
    · cases e : H x with
      | none => exact .inr rfl
      | some u1 => exact absurd h1 (by rw [a.keep x u1 e]; simp), b.bb.trans a.bb⟩
/-- a new object, known to W -/
theorem Ext.alloc {H : Hp} {W : Wd} (s : Sub W.g H) {p : Addr} {o : HO} (h : H p = none) : Ext H W (upd H p o) (W.up p o) :=
  ⟨fun a u e => by rw [upd_ne (ne_of_none e h)]; exact e, Le.new (s.no h), s.both, fun a u e => by
    by_cases q : a = p
    · exact .inr (by rw [q]; exact h)
    · have e' : upd W.g p o a = some u := e
      rw [upd_ne q] at e'; exact .inl (by rw [e']; simp), rfl⟩
/-- a new object, not known to W -/
theorem Ext.alloc0 {H : Hp} {W : Wd} (s : Sub W.g H) {p : Addr} {o : HO} (h : H p = none) : Ext H W (upd H p o) W :=
  ⟨fun a u e => by rw [upd_ne (ne_of_none e h)]; exact e, Le.refl W, s.mut (s.no h), fun a u e => .inl (by rw [e]; simp), rfl⟩
section
variable {K : KW} {c : Fm} {σ : L2.St} {H H' : Hp} {W W' : Wd} {r : RE}
theorem RR.cell (R : RR K c σ H W r) {i : Nat} {d : D} (e : r.st[i]? = some d) : ∃ a, W.b[i]? = some a ∧ Own K H W d (.ref a) := by
  have hi : i < W.b.length := by rw [R.cl]; exact (List.getElem?_eq_some_iff.mp e).1
  exact ⟨W.b[i], List.getElem?_eq_getElem hi, R.ce i d _ e (List.getElem?_eq_getElem hi)⟩
theorem RR.there (R : RR K c σ H W r) {a : Addr} (h : a ∈ W.b) : H a ≠ none := by
  obtain ⟨i, hi⟩ := List.mem_iff_getElem?.mp h
  have hl : i < r.st.length := by rw [← R.cl]; exact (List.getElem?_eq_some_iff.mp hi).1
  obtain ⟨b, u, e, q⟩ := (R.ce i _ a (List.getElem?_eq_getElem hl) hi).ref
  cases e; rw [q]; simp
theorem RR.heNone (R : RR K c σ H W r) {a : Addr} (h : H a = none) : c.He a = none := by
  cases e : c.He a with
  | none => rfl
  | some u =>
    by_cases ha : a ∈ c.W0.b
    · exact absurd h (R.xk a ha)
    · obtain ⟨⟨u', e', _⟩, _⟩ := (R.ke a u e).1 ha
      rw [h] at e'; cases e'
theorem RR.ext (R : RR K c σ H W r) (x : Ext H W H' W') : RR K c σ H' W' r where
  gh := x.in_
  g0 := R.g0.trans x.sub
  gr := fun a u h => by
    rcases x.new a u h with h1 | h1
    · cases e : W.g a with
      | none => exact absurd e h1
      | some u1 => exact R.gr a u1 e
    · exact .inr (R.heNone h1)
  ke := fun a u h => by
    obtain ⟨k0, k2⟩ := R.ke a u h
    refine ⟨fun ha => ?_, fun o v z => x.keep a u (k2 o v z)⟩
    obtain ⟨⟨u', e', q⟩, k⟩ := k0 ha
    exact ⟨⟨u', x.keep a u' e', q⟩, fun z => x.keep a u (k z)⟩
  xk := fun a ha e => by
    cases q : H a with
    | none => exact R.xk a ha q
    | some u => rw [x.keep a u q] at e; cases e
  len := R.len
  sl := fun i d h => by
    obtain ⟨v, hv, hr⟩ := R.sl i d h
    exact ⟨v, hv, hr.mono x.sub⟩
  cl := by rw [x.bb]; exact R.cl
  ce := fun i d a h1 h2 => (R.ce i d a h1 (by rw [← x.bb]; exact h2)).mono x.sub (fun u => x.keep a u)
  cg := fun a ha => by
    rw [x.bb] at ha
    refine ⟨?_, (R.cg a ha).2⟩
    cases q : W'.g a with
    | none => rfl
    | some u =>
      rcases x.new a u q with z | z
      · exact absurd (R.cg a ha).1 z
      · exact absurd z (R.there ha)
  cn := by rw [x.bb]; exact R.cn
  lk := fun p hp => x.keep _ _ (R.lk p hp)
theorem get_set_self {α : Type} {l : List (Option α)} {i : Nat} {x y : Option α} (h : (l.set i x)[i]? = some y) : y = x := by
  by_cases hi : i < l.length
  · rw [List.getElem?_set_self hi] at h; exact (Option.some.inj h).symm
  · rw [List.getElem?_eq_none (by rw [List.length_set]; omega)] at h; cases h
/-- other slots -/
theorem RR.slots {σ' : L2.St} {s' : List (Option D)} (R : RR K c σ H W r) (hl : σ'.length = s'.length) (h : ∀ (i : Nat) (d : D), s'[i]? = some (some d) → ∃ v, σ'[i]? = some (some v) ∧ RepD K W d v) : RR K c σ' H W ⟨s', r.st⟩ :=
  ⟨R.gh, R.g0, R.gr, R.ke, R.xk, hl, h, R.cl, R.ce, R.cg, R.cn, R.lk⟩
/-- a value is stored -/
theorem RR.set (R : RR K c σ H W r) {i : Nat} {d : D} {v : V} (h : RepD K W d v) : RR K c (σ.set i (some v)) H W (r.put i (some d)) :=
  R.slots (by rw [List.length_set, List.length_set]; exact R.len) fun j e q => by
    by_cases hj : i = j
    · subst hj
      have hi : i < r.s.length := by
        by_cases hi : i < r.s.length
        · exact hi
        · rw [List.getElem?_eq_none (by rw [List.length_set]; omega)] at q; cases q
      have e' := get_set_self q
      cases e'
      exact ⟨v, List.getElem?_set_self (by rw [R.len]; exact hi), h⟩
    · rw [List.getElem?_set_ne hj] at q
      obtain ⟨u, h1, h2⟩ := R.sl j e q
      exact ⟨u, by rw [List.getElem?_set_ne hj]; exact h1, h2⟩
/-- a slot is forgotten -/
theorem RR.drop (R : RR K c σ H W r) {i : Nat} {x : Option V} : RR K c (σ.set i x) H W (r.put i none) :=
  R.slots (by rw [List.length_set, List.length_set]; exact R.len) fun j e q => by
    by_cases hj : i = j
    · subst hj
      have e' := get_set_self q
      cases e'
    · rw [List.getElem?_set_ne hj] at q
      obtain ⟨u, h1, h2⟩ := R.sl j e q
      exact ⟨u, by rw [List.getElem?_set_ne hj]; exact h1, h2⟩
/-- a new thing that nobody knows yet -/
structure Fresh (K : KW) (c : Fm) (H : Hp) (W : Wd) (d : D) (p : Addr) : Prop where
  g : W.g p = none
  e : c.He p = none
  n : p ∉ W.b
  o : Own K H W d (.ref p)
theorem RR.fresh (R : RR K c σ H W r) {p : Addr} {o : HO} {d : D} (h : H p = none) (w : Own K (upd H p o) W d (.ref p)) : RR K c σ (upd H p o) W r ∧ Fresh K c (upd H p o) W d p :=
  ⟨R.ext (Ext.alloc0 R.gh h), R.gh.no h, R.heNone h, fun z => R.there z h, w⟩
/-- .. is frozen -/
theorem RR.freeze (R : RR K c σ H W r) {d : D} {p : Addr} (f : Fresh K c H W d p) : ∃ u, H p = some u ∧ RR K c σ H (W.up p u) r ∧ RepD K (W.up p u) (unlck d) (.ref p) ∧ Le W (W.up p u) := by
  obtain ⟨a, u, e, hu⟩ := f.o.ref
  cases e
  have hle : Le W (W.up p u) := Le.new f.g
  refine ⟨u, hu, ⟨R.gh.cover hu, R.g0.trans hle, fun b v e => ?_, R.ke, R.xk, R.len, fun i d h => ?_, R.cl, fun i d a h1 h2 => (R.ce i d a h1 h2).mono hle (fun _ z => z), fun a ha => ⟨?_, (R.cg a ha).2⟩, R.cn, R.lk⟩, f.o.at hle hu upd_same, hle⟩
  · by_cases z : b = p
    · exact .inr (z ▸ f.e)
    · have e' : upd W.g p u b = some v := e
      rw [upd_ne z] at e'; exact R.gr b v e'
  · obtain ⟨v, h1, h2⟩ := R.sl i d h
    exact ⟨v, h1, h2.mono hle⟩
  · have : a ≠ p := fun z => f.n (z ▸ ha)
    show upd W.g p u a = none
    rw [upd_ne this]; exact (R.cg a ha).1
/-- .. becomes a cell -/
theorem RR.newCell (R : RR K c σ H W r) {d : D} {p : Addr} (f : Fresh K c H W d p) : RR K c σ H (W.add p) ⟨r.s, r.st ++ [d]⟩ ∧ RepD K (W.add p) (.cell r.st.length) (.ref p) := by
  have hle : Le W (W.add p) := Le.add
  refine ⟨⟨R.gh, R.g0.trans hle, R.gr, R.ke, R.xk, R.len, fun i d h => ?_, ?_, fun i d' a h1 h2 => ?_, fun a ha => ?_, ?_, R.lk⟩, ?_⟩
  · obtain ⟨v, h1, h2⟩ := R.sl i d h
    exact ⟨v, h1, h2.mono hle⟩
  · show (W.b ++ [p]).length = (r.st ++ [d]).length
    rw [List.length_append, List.length_append, R.cl]; rfl
  · have h1' : (r.st ++ [d])[i]? = some d' := h1
    have h2' : (W.b ++ [p])[i]? = some a := h2
    by_cases hi : i < r.st.length
    · rw [List.getElem?_append_left hi] at h1'
      rw [List.getElem?_append_left (by rw [R.cl]; exact hi)] at h2'
      exact (R.ce i d' a h1' h2').mono hle (fun _ z => z)
    · rw [List.getElem?_append_right (by omega)] at h1'
      rw [List.getElem?_append_right (by rw [R.cl]; omega)] at h2'
      have e0 : i - r.st.length = 0 := by
        by_cases z : i - r.st.length = 0
        · exact z
        · rw [List.getElem?_eq_none (by simp; omega)] at h1'; cases h1'
      rw [e0] at h1'
      rw [R.cl, e0] at h2'
      simp at h1' h2'
      subst h1'; subst h2'
      exact f.o.mono hle (fun _ z => z)
  · have ha' : a ∈ W.b ++ [p] := ha
    rcases List.mem_append.mp ha' with z | z
    · exact R.cg a z
    · have : a = p := by simpa using z
      subst this
      exact ⟨f.g, .inr f.e⟩
  · show (W.b ++ [p]).Nodup
    rw [List.nodup_append]
    refine ⟨R.cn, by simp, fun a ha b hb => ?_⟩
    have : b = p := by simpa using hb
    subst this
    exact fun z => f.n (z ▸ ha)
  · simp only [RepD]
    refine ⟨p, ?_, rfl⟩
    show (W.b ++ [p])[r.st.length]? = some p
    rw [← R.cl, List.getElem?_append_right (Nat.le_refl _)]; simp
/-- a cell changes -/
theorem RR.mut (R : RR K c σ H W r) {i : Nat} {a : Addr} {d d' : D} {o : HO} (hs : r.st[i]? = some d) (ha : W.b[i]? = some a) (hf : ∀ ob v, H a ≠ some (.frz ob v)) (new : Own K (upd H a o) W d' (.ref a)) : RR K c σ (upd H a o) W ⟨r.s, r.st.set i d'⟩ := by
  have hm : a ∈ W.b := List.mem_iff_getElem?.mpr ⟨i, ha⟩
  obtain ⟨ga, hx⟩ := R.cg a hm
  refine ⟨R.gh.mut ga, R.g0, R.gr, fun b u hb => ?_, fun b hb => ?_, R.len, R.sl, ?_, fun j e b h1 h2 => ?_, R.cg, R.cn, fun p hp => ?_⟩
  · obtain ⟨k0, k2⟩ := R.ke b u hb
    by_cases z : b = a
    · subst z
      refine ⟨fun hn => ?_, fun ob v e => absurd (k2 ob v e) (by rw [e]; exact hf ob v)⟩
      rcases hx with hx | hx
      · exact absurd hx hn
      · rw [hb] at hx; cases hx
    · rw [upd_ne z]; exact ⟨k0, k2⟩
  · by_cases z : b = a
    · rw [z, upd_same]; simp
    · rw [upd_ne z]; exact R.xk b hb
  · show W.b.length = (r.st.set i d').length
    rw [List.length_set]; exact R.cl
  · have h1' : (r.st.set i d')[j]? = some e := h1
    by_cases hj : i = j
    · subst hj
      rw [List.getElem?_set_self (List.getElem?_eq_some_iff.mp hs).1] at h1'
      cases h1'
      rw [ha] at h2; cases h2
      exact new
    · rw [List.getElem?_set_ne hj] at h1'
      have hb : b ≠ a := fun z => by
        subst z
        have q1 := List.getElem?_eq_some_iff.mp ha
        have q2 := List.getElem?_eq_some_iff.mp h2
        exact hj ((List.getElem_inj R.cn).mp (q1.2.trans q2.2.symm))
      exact (R.ce j e b h1' h2).mono (Le.refl W) (fun u q => by rw [upd_ne hb]; exact q)
  · have h1 := R.lk p hp
    have : p.1 ≠ a := fun z => hf _ _ (z ▸ h1)
    rw [upd_ne this]; exact h1
theorem RepD.at (R : RR K c σ H W r) {d d' : D} {v : V} (h : RepD K W d v) (e : dr r.st d = some d') : RepT K H W d' v := by
  cases d with
  | cell i =>
    simp only [RepD] at h
    obtain ⟨a, ha, rfl⟩ := h
    have hi : i < r.st.length := by rw [← R.cl]; exact (List.getElem?_eq_some_iff.mp ha).1
    have ho := R.ce i _ a (List.getElem?_eq_getElem hi) ha
    have : d' = unlck r.st[i] := by
      simp only [dr, List.getElem?_eq_getElem hi] at e
      cases q : r.st[i] with
      | lck d0 =>
        rw [q] at e
        cases d0 <;> (cases e; rfl)
      | _ => rw [q] at e; cases e; rfl
    rw [this]
    exact RepT.own ho
  | _ => simp only [dr] at e; cases e; exact RepT.of R.gh h
inductive RepTL (K : KW) (H : Hp) (W : Wd) : List D → List V → Prop
  | nil : RepTL K H W [] []
  | cons {d : D} {v : V} {ds : List D} {vs : List V} : RepT K H W d v → RepTL K H W ds vs → RepTL K H W (d :: ds) (v :: vs)
@[simp] def drs (st : Sto) : List D → Option (List D)
  | [] => some []
  | o :: os => match dr st o, drs st os with
    | some d, some ds => some (d :: ds)
    | _, _ => none
theorem RepL.at (R : RR K c σ H W r) : ∀ {os : List D} {vs : List V} {ds : List D}, RepL K W os vs → drs r.st os = some ds → RepTL K H W ds vs
  | [], _, _, h, e => by cases e; simp only [RepL] at h; subst h; exact .nil
  | o :: os, _, ds, h, e => by
    simp only [RepL] at h
    obtain ⟨v, us, ev, h, t⟩ := h
    subst ev
    simp only [drs] at e
    cases q : dr r.st o with
    | none => rw [q] at e; cases e
    | some d =>
      cases q2 : drs r.st os with
      | none => rw [q, q2] at e; cases e
      | some ds' =>
        rw [q, q2] at e; cases e
        exact .cons (h.at R q) (RepL.at R t q2)
end
end Mir
set_option maxHeartbeats 1000000
namespace Mir
open PySem PySem.Spec PyProof.Rows L2
theorem lim_le {n : Nat} (h : n ≤ 1000000) : n ≤ sizeLine := Nat.le_trans h (by decide)
theorem lim_lt {n : Nat} (h : n < 1000000) : n < sizeLine := Nat.lt_of_lt_of_le h (by decide)
def Wp {α : Type} (o : Out α) (P : α → Prop) (X : Exn → Sto → Prop) : Prop := match o with
  | .ok a => P a
  | .exc x st => X x st
  | .stuck => False
theorem Wp.bnd {α β : Type} {o : Out α} {f : α → Out β} {P : β → Prop} {X : Exn → Sto → Prop} (h : Wp (o.bnd f) P X) : Wp o (fun a => Wp (f a) P X) X := by
  cases o <;> exact h
theorem Wp.mono {α : Type} {o : Out α} {P P' : α → Prop} {X X' : Exn → Sto → Prop} (h : Wp o P X) (k : ∀ a, P a → P' a) (k' : ∀ x st, X x st → X' x st) : Wp o P' X' := by
  cases o
  · exact k _ h
  · exact k' _ _ h
  · exact h
/-! ## the judgements -/
/-- an exception leaves: E is what is wanted of it -/
def XP (K : KW) (c : Fm) (E : XK) (x : Exn) (st : Sto) : Prop := ∀ dx H' W' us, RR K c [] H' W' ⟨[], st⟩ → H' dx = some (.xd us) → RepF K W' x.fs us → E (.ref x.cls) (some dx) H'
section defs
variable (K : KW) (E : XK)
def Snd (te : TE) (m : RE → Out (D × RE)) : Prop := ∀ (c : Fm) (σ : L2.St) (H : Hp) (W : Wd) (r : RE) (Q : VK), RR K c σ H W r →
  Wp (m r) (fun p => ∀ v H' W', RR K c σ H' W' p.2 → Le W W' → RepD K W' p.1 v → Q v H') (XP K c E) → te σ H Q
def SndF (te : TE) (m : RE → Out (D × RE)) : Prop := ∀ (c : Fm) (σ : L2.St) (H : Hp) (W : Wd) (r : RE) (Q : VK), RR K c σ H W r →
  Wp (m r) (fun p => ∀ a H' W', RR K c σ H' W' p.2 → Le W W' → Fresh K c H' W' p.1 a → Q (.ref a) H') (XP K c E) → te σ H Q
def SndT (te : TT) (m : RE → Out (Bool × RE)) : Prop := ∀ (c : Fm) (σ : L2.St) (H : Hp) (W : Wd) (r : RE) (Q : Bool → Hp → Prop), RR K c σ H W r →
  Wp (m r) (fun p => ∀ H' W', RR K c σ H' W' p.2 → Le W W' → Q p.1 H') (XP K c E) → te σ H Q
def SndA (te : TA) (m : RE → Out (List D × RE)) : Prop := ∀ (c : Fm) (σ : L2.St) (H : Hp) (W : Wd) (r : RE) (Q : List V → Hp → Prop), RR K c σ H W r →
  Wp (m r) (fun p => ∀ vs H' W', RR K c σ H' W' p.2 → Le W W' → RepL K W' p.1 vs → Q vs H') (XP K c E) → te σ H Q
inductive Fl where
  | nx (r : RE)
  | rt (d : D) (r : RE)
  | bk (r : RE)
  | ct (r : RE)
def FlP (c : Fm) (W : Wd) (Dd : Ends) : Fl → Prop
  | .nx r' => ∀ σ' H' W', RR K c σ' H' W' r' → Le W W' → Dd.nx σ' H'
  | .rt d r' => ∀ v σ' H' W', RR K c σ' H' W' r' → Le W W' → RepD K W' d v → Dd.rt v H'
  | .bk r' => ∀ σ' H' W', RR K c σ' H' W' r' → Le W W' → Dd.bk σ' H'
  | .ct r' => ∀ σ' H' W', RR K c σ' H' W' r' → Le W W' → Dd.ct σ' H'
def SndS (ts : TS) (m : RE → Out Fl) : Prop := ∀ (c : Fm) (σ : L2.St) (H : Hp) (W : Wd) (r : RE) (Dd : Ends), RR K c σ H W r →
  Wp (m r) (FlP K c W Dd) (XP K c E) → ts Dd σ H
end defs
def EM (X : Cx) (E : XK) (e : PySem.Expr) (m : RE → Out (D × RE)) : Prop := ∃ te, PE X e te ∧ Snd X.kw E te m
def FM (X : Cx) (E : XK) (e : PySem.Expr) (m : RE → Out (D × RE)) : Prop := ∃ te, PE X e te ∧ SndF X.kw E te m
def TM (X : Cx) (E : XK) (e : PySem.Expr) (m : RE → Out (Bool × RE)) : Prop := ∃ te, PT X e te ∧ SndT X.kw E te m
def WM (X : Cx) (E : XK) (e : PySem.Expr) (m : RE → Out (Bool × RE)) : Prop := ∃ te, PW X e te ∧ SndT X.kw E te m
def AM (X : Cx) (E : XK) (es : List PySem.Expr) (m : RE → Out (List D × RE)) : Prop := ∃ te, PA X es te ∧ SndA X.kw E te m
def SM (X : Cx) (E : XK) (s : Stmt) (m : RE → Out Fl) : Prop := ∃ ts, PS X s ts ∧ SndS X.kw E ts m
def BM (X : Cx) (E : XK) (s : List Stmt) (m : RE → Out Fl) : Prop := ∃ ts, PSs X s ts ∧ SndS X.kw E ts m
/-! ## mirrors of expressions -/
@[simp] def mVar (i : Nat) : RE → Out (D × RE) := fun r => match r.s[i]? with
  | some (some d) => .ok (d, r)
  | _ => .stuck
@[simp] def mC (d : D) : RE → Out (D × RE) := fun r => .ok (d, r)
@[simp] def mOp2 (f : D → D → Out D) (ma mb : RE → Out (D × RE)) : RE → Out (D × RE) := fun r => (ma r).bnd fun x => (mb x.2).bnd fun y => match dr y.2.st x.1, dr y.2.st y.1 with
  | some dx, some dy => (f dx dy).bnd fun d => .ok (d, y.2)
  | _, _ => .stuck
@[simp] def mOp1 (f : D → Out D) (ma : RE → Out (D × RE)) : RE → Out (D × RE) := fun r => (ma r).bnd fun x => match dr x.2.st x.1 with
  | some dx => (f dx).bnd fun d => .ok (d, x.2)
  | _ => .stuck
@[simp] def mNil : RE → Out (List D × RE) := fun r => .ok ([], r)
@[simp] def mCons (m : RE → Out (D × RE)) (ms : RE → Out (List D × RE)) : RE → Out (List D × RE) := fun r => (m r).bnd fun p => (ms p.2).bnd fun q => .ok (p.1 :: q.1, q.2)
@[simp] def mArgs (f : List D → Out D) (ms : RE → Out (List D × RE)) : RE → Out (D × RE) := fun r => (ms r).bnd fun p => match drs p.2.st p.1 with
  | some ds => (f ds).bnd fun d => .ok (d, p.2)
  | none => .stuck
@[simp] def truth : D → Out Bool
  | .non => .ok false
  | .bl b => .ok b
  | .int i => .ok (i != 0)
  | .str x => if x.length ≤ 1000000 then .ok ((x.length : Int) != 0) else .stuck
  | .lst xs => .ok (!xs.isEmpty)
  | .tup xs => .ok (!xs.isEmpty)
  | _ => .stuck
@[simp] def mTruth (m : RE → Out (D × RE)) : RE → Out (Bool × RE) := fun r => (m r).bnd fun p => match dr p.2.st p.1 with
  | some d => (truth d).bnd fun b => .ok (b, p.2)
  | none => .stuck
@[simp] def asB : D → Out Bool
  | .bl b => .ok b
  | _ => .stuck
@[simp] def mBool (m : RE → Out (D × RE)) : RE → Out (Bool × RE) := fun r => (m r).bnd fun p => (asB p.1).bnd fun b => .ok (b, p.2)
@[simp] def mTAnd (a b : RE → Out (Bool × RE)) : RE → Out (Bool × RE) := fun r => (a r).bnd fun p => if p.1 = true then b p.2 else .ok (false, p.2)
@[simp] def mTOr (a b : RE → Out (Bool × RE)) : RE → Out (Bool × RE) := fun r => (a r).bnd fun p => if p.1 = true then .ok (true, p.2) else b p.2
@[simp] def mTNot (a : RE → Out (Bool × RE)) : RE → Out (Bool × RE) := fun r => (a r).bnd fun p => .ok (!p.1, p.2)
@[simp] def mAnd (a b : RE → Out (D × RE)) : RE → Out (D × RE) := fun r => (a r).bnd fun p => (asB p.1).bnd fun c => if c = true then b p.2 else .ok (.bl false, p.2)
@[simp] def mOr (a b : RE → Out (D × RE)) : RE → Out (D × RE) := fun r => (a r).bnd fun p => (asB p.1).bnd fun c => if c = true then .ok (.bl true, p.2) else b p.2
@[simp] def mNot (a : RE → Out (D × RE)) : RE → Out (D × RE) := fun r => (a r).bnd fun p => (asB p.1).bnd fun c => .ok (.bl (!c), p.2)
@[simp] def mIfE (t : RE → Out (Bool × RE)) (a b : RE → Out (D × RE)) : RE → Out (D × RE) := fun r => (t r).bnd fun p => if p.1 = true then a p.2 else b p.2
/-! ## mirrors of statements -/
@[simp] def mNext : RE → Out Fl := fun r => .ok (.nx r)
@[simp] def mBrk : RE → Out Fl := fun r => .ok (.bk r)
@[simp] def mCnt : RE → Out Fl := fun r => .ok (.ct r)
@[simp] def mSeq (a b : RE → Out Fl) : RE → Out Fl := fun r => (a r).bnd fun f => match f with
  | .nx r' => b r'
  | f => .ok f
@[simp] def mDrop (m : RE → Out (D × RE)) : RE → Out Fl := fun r => (m r).bnd fun p => .ok (.nx p.2)
@[simp] def mRet (m : RE → Out (D × RE)) : RE → Out Fl := fun r => (m r).bnd fun p => .ok (.rt p.1 p.2)
@[simp] def mIf (t : RE → Out (Bool × RE)) (a b : RE → Out Fl) : RE → Out Fl := fun r => (t r).bnd fun p => if p.1 = true then a p.2 else b p.2
@[simp] def mSet (i : Nat) (m : RE → Out (D × RE)) : RE → Out Fl := fun r => (m r).bnd fun p => .ok (.nx (p.2.put i (some p.1)))
/-- a loop over the data xs; st stores an item -/
def mLoop (st : D → RE → Option RE) (b : RE → Out Fl) : List D → RE → Out Fl
  | [], r => .ok (.nx r)
  | x :: xs, r => match st x r with
    | none => .stuck
    | some r1 => (b r1).bnd fun f => match f with
      | .nx r2 => mLoop st b xs r2
      | .ct r2 => mLoop st b xs r2
      | .bk r2 => .ok (.nx r2)
      | .rt d r2 => .ok (.rt d r2)
section
variable {K : KW} {E : XK} {c : Fm} {σ : L2.St} {H H' : Hp} {W W' : Wd} {r : RE}
/-! ## soundness of the parts -/
variable {ta tb te : TE} {ma mb m oa ob : RE → Out (D × RE)} {t u : TT} {mt mu : RE → Out (Bool × RE)}
theorem snd_var {i : Nat} : Snd K E (tVar i) (mVar i) := fun c σ H W r Q R h => by
  unfold mVar at h
  split at h
  · rename_i d e
    obtain ⟨v, h1, h3⟩ := R.sl i d e
    exact ⟨v, h1, h v H W R (Le.refl W) h3⟩
  · exact h.elim
/-- a new thing, frozen -/
theorem snd_of_f (h : SndF K E te m) (hu : ∀ r d r', m r = .ok (d, r') → unlck d = d) : Snd K E te m := fun c σ H W r Q R w => by
  refine h c σ H W r Q R ?_
  cases e : m r with
  | ok p =>
    rw [e] at w
    intro a H' W' R' s f
    obtain ⟨u, hu', R2, rep, le⟩ := R'.freeze f
    obtain ⟨d, r'⟩ := p
    rw [hu r d r' e] at rep
    exact w (.ref a) H' _ R2 (s.trans le) rep
  | exc x st => rw [e] at w; exact w
  | stuck => rw [e] at w; exact w
@[simp] def mCell (m : RE → Out (D × RE)) : RE → Out (D × RE) := fun r => (m r).bnd fun p => .ok (.cell p.2.st.length, ⟨p.2.s, p.2.st ++ [p.1]⟩)
/-- a new thing, as a cell -/
theorem snd_cell (h : SndF K E te m) : Snd K E te (mCell m) := fun c σ H W r Q R w => by
  refine h c σ H W r Q R ((Wp.bnd w).mono (fun p q a H' W' R' s f => ?_) fun _ _ x => x)
  obtain ⟨R2, rep⟩ := R'.newCell f
  exact q (.ref a) H' _ R2 (s.trans Le.add) rep
theorem snd_c {d : D} {v : V} (h : ∀ W, RepD K W d v) : Snd K E (tC v) (mC d) := fun c σ H W r Q R w => w v H W R (Le.refl W) (h W)
/-- an operation on two values -/
def OpS (K : KW) (rr : R2) (f : D → D → Out D) : Prop := ∀ (x y : V) (H : Hp) (W : Wd) (dx dy : D) (Q : VK), Sub W.g H → RepT K H W dx x → RepT K H W dy y → ∀ d, f dx dy = .ok d →
  (∀ v H' W', Ext H W H' W' → RepD K W' d v → Q v H') → rr x y H Q
/-- f raises nothing -/
def NoX1 {α : Type} (f : α → Out D) : Prop := ∀ a x st, f a ≠ .exc x st
def NoX2 (f : D → D → Out D) : Prop := ∀ a b x st, f a b ≠ .exc x st
theorem wp_f2 {f : D → D → Out D} (nx : NoX2 f) {dx dy : D} {r' : RE} {P : D × RE → Prop} {X : Exn → Sto → Prop} (h : Wp ((f dx dy).bnd fun d => .ok (d, r')) P X) : ∃ d, f dx dy = .ok d ∧ P (d, r') := by
  cases e : f dx dy with
  | ok d => rw [e] at h; exact ⟨d, rfl, h⟩
  | exc x st => exact absurd e (nx _ _ _ _)
  | stuck => rw [e] at h; exact h.elim
theorem wp_f1 {α : Type} {f : α → Out D} (nx : NoX1 f) {a : α} {r' : RE} {P : D × RE → Prop} {X : Exn → Sto → Prop} (h : Wp ((f a).bnd fun d => .ok (d, r')) P X) : ∃ d, f a = .ok d ∧ P (d, r') := by
  cases e : f a with
  | ok d => rw [e] at h; exact ⟨d, rfl, h⟩
  | exc x st => exact absurd e (nx _ _ _)
  | stuck => rw [e] at h; exact h.elim
theorem snd_op2 {rr : R2} {f : D → D → Out D} (ho : OpS K rr f) (nx : NoX2 f) (ha : Snd K E ta oa) (hb : Snd K E tb ob) : Snd K E (tOp rr ta tb) (mOp2 f oa ob) := fun c σ H W r Q R w => by
  refine ha c σ H W r _ R ((Wp.bnd w).mono (fun p q v1 H1 W1 R1 s1 h1 => ?_) fun _ _ x => x)
  refine hb c σ H1 W1 p.2 _ R1 ((Wp.bnd q).mono (fun p2 q2 v2 H2 W2 R2 s2 h2 => ?_) fun _ _ x => x)
  cases e1 : dr p2.2.st p.1 with
  | none => simp only [e1] at q2; exact q2.elim
  | some dx =>
    cases e2 : dr p2.2.st p2.1 with
    | none => simp only [e1, e2] at q2; exact q2.elim
    | some dy =>
      simp only [e1, e2] at q2
      obtain ⟨d, hd, q3⟩ := wp_f2 nx q2
      exact ho v1 v2 H2 W2 dx dy Q R2.gh ((h1.mono s2).at R2 e1) (h2.at R2 e2) d hd fun v H' W' x rep => q3 v H' W' (R2.ext x) ((s1.trans s2).trans x.sub) rep
/-- arguments -/
theorem snd_nil : SndA K E tNil mNil := fun c σ H W r Q R w => w [] H W R (Le.refl W) rfl
theorem snd_cons {tr : TA} {ms : RE → Out (List D × RE)} (ha : Snd K E ta oa) (hr : SndA K E tr ms) : SndA K E (tCons ta tr) (mCons oa ms) := fun c σ H W r Q R w => by
  refine ha c σ H W r _ R ((Wp.bnd w).mono (fun p q v1 H1 W1 R1 s1 h1 => ?_) fun _ _ x => x)
  refine hr c σ H1 W1 p.2 _ R1 ((Wp.bnd q).mono (fun p2 q2 v2 H2 W2 R2 s2 h2 => ?_) fun _ _ x => x)
  exact q2 (v1 :: v2) H2 W2 R2 (s1.trans s2) ⟨v1, v2, rfl, h1.mono s2, h2⟩
def CallS (K : KW) (rr : List V → Hp → VK → Prop) (f : List D → Out D) : Prop := ∀ (xs : List V) (H : Hp) (W : Wd) (ds : List D) (Q : VK), Sub W.g H → RepTL K H W ds xs → ∀ d, f ds = .ok d →
  (∀ v H' W', Ext H W H' W' → RepD K W' d v → Q v H') → rr xs H Q
def CallF (K : KW) (rr : List V → Hp → VK → Prop) (f : List D → Out D) : Prop := ∀ (xs : List V) (H : Hp) (W : Wd) (ds : List D) (Q : VK), Sub W.g H → RepTL K H W ds xs → ∀ d, f ds = .ok d →
  (∀ p o, H p = none → Own K (upd H p o) W d (.ref p) → Q (.ref p) (upd H p o)) → rr xs H Q
theorem snd_cb {rr : List V → Hp → VK → Prop} {f : List D → Out D} {tr : TA} {ms : RE → Out (List D × RE)} (ho : CallS K rr f) (nx : NoX1 f) (ha : SndA K E tr ms) : Snd K E (tCB rr tr) (mArgs f ms) := fun c σ H W r Q R w => by
  refine ha c σ H W r _ R ((Wp.bnd w).mono (fun p q vs H1 W1 R1 s1 h1 => ?_) fun _ _ x => x)
  cases e1 : drs p.2.st p.1 with
  | none => simp only [e1] at q; exact q.elim
  | some ds =>
    simp only [e1] at q
    obtain ⟨d, hd, q3⟩ := wp_f1 nx q
    exact ho vs H1 W1 ds Q R1.gh (h1.at R1 e1) d hd fun v H' W' x rep => q3 v H' W' (R1.ext x) (s1.trans x.sub) rep
theorem sndf_cb {rr : List V → Hp → VK → Prop} {f : List D → Out D} {tr : TA} {ms : RE → Out (List D × RE)} (ho : CallF K rr f) (nx : NoX1 f) (ha : SndA K E tr ms) : SndF K E (tCB rr tr) (mArgs f ms) := fun c σ H W r Q R w => by
  refine ha c σ H W r _ R ((Wp.bnd w).mono (fun p q vs H1 W1 R1 s1 h1 => ?_) fun _ _ x => x)
  cases e1 : drs p.2.st p.1 with
  | none => simp only [e1] at q; exact q.elim
  | some ds =>
    simp only [e1] at q
    obtain ⟨d, hd, q3⟩ := wp_f1 nx q
    refine ho vs H1 W1 ds Q R1.gh (h1.at R1 e1) d hd fun a o ha w => ?_
    obtain ⟨R3, f3⟩ := R1.fresh ha w
    exact q3 a _ W1 R3 s1 f3
/-! tests -/
theorem snd_bool (h : Snd K E te m) : SndT K E (tB te) (mBool m) := fun c σ H W r Q R w => by
  refine h c σ H W r _ R ((Wp.bnd w).mono (fun p q v H1 W1 R1 s1 h1 => ?_) fun _ _ x => x)
  obtain ⟨d, r'⟩ := p
  cases d <;> simp only [asB, bnd_ok, bnd_stuck, Wp] at q <;> try exact q.elim
  rename_i b
  simp only [RepD] at h1
  exact ⟨b, h1, q H1 W1 R1 s1⟩
theorem snd_test (h : Snd K E te m) : SndT K E (tTest te) (mBool m) := snd_bool h
theorem snd_truth (h : Snd K E te oa) : SndT K E (fun σ H Q => te σ H fun x H' => ∃ k, TruV K x H' k ∧ Q k H') (mTruth oa) := fun c σ H W r Q R w => by
  refine h c σ H W r _ R ((Wp.bnd w).mono (fun p q v H1 W1 R1 s1 h1 => ?_) fun _ _ x => x)
  cases e1 : dr p.2.st p.1 with
  | none => simp only [e1] at q; exact q.elim
  | some d =>
    simp only [e1] at q
    have ht := h1.at R1 e1
    cases d <;> simp only [truth, bnd_ok, bnd_stuck, Wp] at q <;> try exact q.elim
    · simp only [RepT, RepD] at ht; subst ht; exact ⟨_, rfl, q H1 W1 R1 s1⟩
    · simp only [RepT, RepD] at ht; subst ht; exact ⟨_, rfl, q H1 W1 R1 s1⟩
    · simp only [RepT, RepD] at ht; subst ht; exact ⟨_, rfl, q H1 W1 R1 s1⟩
    · simp only [RepT, RepD] at ht; subst ht
      rename_i x
      by_cases hz : x.length ≤ 1000000
      · rw [if_pos hz] at q
        exact ⟨_, ⟨lim_le hz, rfl⟩, q H1 W1 R1 s1⟩
      · rw [if_neg hz] at q
        exact q.elim
    · rename_i xs
      obtain ⟨a, vs, e, hq, hl⟩ := ht
      subst e
      refine ⟨_, .inr (.inl ⟨vs, SqT.of (R1.gh.tup hq), ?_⟩), q H1 W1 R1 s1⟩
      cases xs with
      | nil => simp only [RepL] at hl; subst hl; rfl
      | cons x xs => simp only [RepL] at hl; obtain ⟨_, _, e, _⟩ := hl; subst e; rfl
    · rename_i xs
      obtain ⟨a, vs, e, hq, hl⟩ := ht
      subst e
      refine ⟨_, .inl ⟨vs, SqL.of hq, ?_⟩, q H1 W1 R1 s1⟩
      cases xs with
      | nil => simp only [RepL] at hl; subst hl; rfl
      | cons x xs => simp only [RepL] at hl; obtain ⟨_, _, e, _⟩ := hl; subst e; rfl
theorem snd_tand (h : SndT K E t mt) (k : SndT K E u mu) : SndT K E (tAnd t u) (mTAnd mt mu) := fun c σ H W r Q R w => by
  refine h c σ H W r _ R ((Wp.bnd w).mono (fun p q H1 W1 R1 s1 => ?_) fun _ _ x => x)
  by_cases e : p.1 = true
  · rw [if_pos e] at q ⊢
    exact k c σ H1 W1 p.2 Q R1 (q.mono (fun p2 q2 H2 W2 R2 s2 => q2 H2 W2 R2 (s1.trans s2)) fun _ _ x => x)
  · rw [if_neg e] at q ⊢
    exact q H1 W1 R1 s1
theorem snd_tor (h : SndT K E t mt) (k : SndT K E u mu) : SndT K E (tOr t u) (mTOr mt mu) := fun c σ H W r Q R w => by
  refine h c σ H W r _ R ((Wp.bnd w).mono (fun p q H1 W1 R1 s1 => ?_) fun _ _ x => x)
  by_cases e : p.1 = true
  · rw [if_pos e] at q ⊢
    exact q H1 W1 R1 s1
  · rw [if_neg e] at q ⊢
    exact k c σ H1 W1 p.2 Q R1 (q.mono (fun p2 q2 H2 W2 R2 s2 => q2 H2 W2 R2 (s1.trans s2)) fun _ _ x => x)
theorem snd_tnot (h : SndT K E t mt) : SndT K E (tNot t) (mTNot mt) := fun c σ H W r Q R w => by
  refine h c σ H W r _ R ((Wp.bnd w).mono (fun p q H1 W1 R1 s1 => ?_) fun _ _ x => x)
  exact q H1 W1 R1 s1
theorem snd_and (h : Snd K E ta ma) (k : Snd K E tb mb) : Snd K E (tAndV ta tb) (mAnd ma mb) := fun c σ H W r Q R w => by
  refine h c σ H W r _ R ((Wp.bnd w).mono (fun p q v H1 W1 R1 s1 h1 => ?_) fun _ _ x => x)
  obtain ⟨d, r'⟩ := p
  cases d <;> simp only [asB, bnd_ok, bnd_stuck] at q <;> try exact q.elim
  rename_i b
  simp only [RepD] at h1
  refine ⟨b, h1, ?_⟩
  by_cases e : b = true
  · rw [if_pos e] at q ⊢
    exact k c σ H1 W1 r' Q R1 (q.mono (fun p2 q2 v2 H2 W2 R2 s2 => q2 v2 H2 W2 R2 (s1.trans s2)) fun _ _ x => x)
  · rw [if_neg e] at q ⊢
    exact q _ H1 W1 R1 s1 (by simp only [RepD])
theorem snd_not (h : Snd K E ta ma) : Snd K E (tNotV ta) (mNot ma) := fun c σ H W r Q R w => by
  refine h c σ H W r _ R ((Wp.bnd w).mono (fun p q v H1 W1 R1 s1 h1 => ?_) fun _ _ x => x)
  obtain ⟨d, r'⟩ := p
  cases d <;> simp only [asB, bnd_ok, bnd_stuck] at q <;> try exact q.elim
  rename_i b
  simp only [RepD] at h1
  exact ⟨b, h1, q _ H1 W1 R1 s1 (by simp only [RepD])⟩
end
end Mir
set_option maxHeartbeats 1000000
namespace Mir
open PySem PySem.Spec PyProof.Rows L2
theorem repL_len {K : KW} {W : Wd} : ∀ {ds : List D} {vs : List V}, RepL K W ds vs → ds.length = vs.length
  | [], vs, h => by simp only [RepL] at h; rw [h]; rfl
  | d :: ds, vs, h => by
    simp only [RepL] at h
    obtain ⟨v, us, e, _, t⟩ := h
    rw [e, List.length_cons, List.length_cons, repL_len t]
theorem repL_get {K : KW} {W : Wd} : ∀ {ds : List D} {vs : List V} {i : Nat} {v : V}, RepL K W ds vs → vs[i]? = some v → ∃ d, ds[i]? = some d ∧ RepD K W d v
  | [], vs, i, v, h, e => by simp only [RepL] at h; rw [h] at e; simp at e
  | d :: ds, vs, 0, v, h, e => by
    simp only [RepL] at h
    obtain ⟨v', us, e', q, t⟩ := h
    rw [e'] at e; simp at e; subst e
    exact ⟨d, rfl, q⟩
  | d :: ds, vs, i + 1, v, h, e => by
    simp only [RepL] at h
    obtain ⟨v', us, e', q, t⟩ := h
    rw [e'] at e; simp at e
    obtain ⟨d', h1, h2⟩ := repL_get (i := i) t e
    exact ⟨d', by simpa using h1, h2⟩
theorem repL_get2 {K : KW} {W : Wd} {ds : List D} {vs : List V} {i : Nat} {d : D} (h : RepL K W ds vs) (e : ds[i]? = some d) : ∃ v, vs[i]? = some v ∧ RepD K W d v := by
  have hl := repL_len h
  obtain ⟨hi, he⟩ := List.getElem?_eq_some_iff.mp e
  have hv : vs[i]? = some (vs[i]'(by omega)) := List.getElem?_eq_getElem (by omega)
  obtain ⟨d', e', q⟩ := repL_get h hv
  rw [e] at e'; cases e'
  exact ⟨_, hv, q⟩
theorem repL_app {K : KW} {W : Wd} : ∀ {ds es : List D} {vs us : List V}, RepL K W ds vs → RepL K W es us → RepL K W (ds ++ es) (vs ++ us)
  | [], es, vs, us, h, k => by simp only [RepL] at h; subst h; exact k
  | d :: ds, es, vs, us, h, k => by
    simp only [RepL] at h
    obtain ⟨v, ws, e, q, t⟩ := h
    subst e
    show RepL K W (d :: (ds ++ es)) (v :: (ws ++ us))
    simp only [RepL]
    exact ⟨v, ws ++ us, rfl, q, repL_app t k⟩
theorem repL_one {K : KW} {W : Wd} {d : D} {v : V} (h : RepD K W d v) : RepL K W [d] [v] := by
  simp only [RepL]; exact ⟨v, [], rfl, h, rfl⟩
section
variable {K : KW} {E : XK} {c : Fm} {σ : L2.St} {H H' : Hp} {W W' : Wd} {r : RE}
variable {ta tb te : TE} {ma mb m : RE → Out (D × RE)} {t u : TT} {mt mu : RE → Out (Bool × RE)} {ts us : TS} {ms mz : RE → Out Fl}
theorem FlP.mono {Dd : Ends} {f : Fl} (s : Le W W') (h : FlP K c W Dd f) : FlP K c W' Dd f := by
  cases f with
  | nx r' => exact fun σ' H' W2 R s2 => h σ' H' W2 R (s.trans s2)
  | rt d r' => exact fun v σ' H' W2 R s2 => h v σ' H' W2 R (s.trans s2)
  | bk r' => exact fun σ' H' W2 R s2 => h σ' H' W2 R (s.trans s2)
  | ct r' => exact fun σ' H' W2 R s2 => h σ' H' W2 R (s.trans s2)
theorem snds_ret (h : Snd K E te m) : SndS K E (tRet te) (mRet m) := fun c σ H W r Dd R w => by
  refine h c σ H W r _ R ((Wp.bnd w).mono (fun p q v H1 W1 R1 s1 h1 => ?_) fun _ _ x => x)
  exact q v σ H1 W1 R1 s1 h1
theorem snds_set {i : Nat} (h : Snd K E te m) : SndS K E (tAsg te (gName i)) (mSet i m) := fun c σ H W r Dd R w => by
  refine h c σ H W r _ R ((Wp.bnd w).mono (fun p q v H1 W1 R1 s1 h1 => ?_) fun _ _ x => x)
  exact q _ H1 W1 (R1.set h1) s1
@[simp] def stName (i : Nat) : D → RE → Option RE := fun d r => some (r.put i (some d))
theorem snds_next : SndS K E tNext mNext := fun c σ H W r Dd R w => w σ H W R (Le.refl W)
theorem snds_seq (h : SndS K E ts ms) (k : SndS K E us mz) : SndS K E (tSeq ts us) (mSeq ms mz) := fun c σ H W r Dd R w => by
  refine h c σ H W r _ R ((Wp.bnd w).mono (fun f q => ?_) fun _ _ x => x)
  cases f with
  | nx r' => exact fun σ' H' W' R' s => k c σ' H' W' r' Dd R' (Wp.mono q (fun f z => FlP.mono s z) fun _ _ x => x)
  | rt d r' => exact q
  | bk r' => exact q
  | ct r' => exact q
theorem snds_drop (h : Snd K E te m) : SndS K E (tDrop te) (mDrop m) := fun c σ H W r Dd R w => by
  refine h c σ H W r _ R ((Wp.bnd w).mono (fun p q v H1 W1 R1 s1 _ => ?_) fun _ _ x => x)
  exact q σ H1 W1 R1 s1
theorem snds_if (h : SndT K E t mt) (k : SndS K E ts ms) (l : SndS K E us mz) : SndS K E (tIfS t ts us) (mIf mt ms mz) := fun c σ H W r Dd R w => by
  refine h c σ H W r _ R ((Wp.bnd w).mono (fun p q H1 W1 R1 s1 => ?_) fun _ _ x => x)
  by_cases e : p.1 = true
  · rw [if_pos e] at q ⊢
    exact k c σ H1 W1 p.2 Dd R1 (q.mono (fun f z => FlP.mono s1 z) fun _ _ x => x)
  · rw [if_neg e] at q ⊢
    exact l c σ H1 W1 p.2 Dd R1 (q.mono (fun f z => FlP.mono s1 z) fun _ _ x => x)
/-! ### targets -/
def GS (K : KW) (E : XK) (g : TG) (st : D → RE → Option RE) : Prop := ∀ (c : Fm) (v : V) (d : D) (σ : L2.St) (H : Hp) (W : Wd) (r r' : RE) (Q : L2.St → Hp → Prop), RR K c σ H W r → RepD K W d v → st d r = some r' →
  (∀ σ', RR K c σ' H W r' → Q σ' H) → g v σ H Q
theorem gs_name {i : Nat} : GS K E (gName i) (stName i) := fun c v d σ H W r r' Q R h e k => by
  cases e
  exact k _ (R.set h)
def GSs (K : KW) (E : XK) (g : TGs) (st : List D → RE → Option RE) : Prop := ∀ (c : Fm) (v : List V) (d : List D) (σ : L2.St) (H : Hp) (W : Wd) (r r' : RE) (Q : L2.St → Hp → Prop), RR K c σ H W r → RepL K W d v → st d r = some r' →
  (∀ σ', RR K c σ' H W r' → Q σ' H) → g v σ H Q
@[simp] def stNil : List D → RE → Option RE := fun ds r => match ds with
  | [] => some r
  | _ => none
@[simp] def stCons (s : D → RE → Option RE) (ss : List D → RE → Option RE) : List D → RE → Option RE := fun ds r => match ds with
  | d :: ds => (s d r).bind (ss ds)
  | [] => none
@[simp] def stTup (n : Nat) (ss : List D → RE → Option RE) : D → RE → Option RE := fun d r => match d with
  | .tup ds => if ds.length = n then ss ds r else none
  | _ => none
theorem gss_nil : GSs K E gNil stNil := fun c v d σ H W r r' Q R h e k => by
  cases d with
  | nil => cases e; simp only [RepL] at h; exact ⟨h, k σ R⟩
  | cons _ _ => cases e
theorem gss_cons {g : TG} {gs : TGs} {s : D → RE → Option RE} {ss : List D → RE → Option RE} (h1 : GS K E g s) (h2 : GSs K E gs ss) : GSs K E (gCons g gs) (stCons s ss) := fun c v d σ H W r r' Q R h e k => by
  cases d with
  | nil => cases e
  | cons d ds =>
    simp only [RepL] at h
    obtain ⟨v1, us, ev, q, t⟩ := h
    obtain ⟨r1, e1, e2⟩ := Option.bind_eq_some_iff.mp (show (s d r).bind (ss ds) = some r' from e)
    refine ⟨v1, us, ev, h1 c v1 d σ H W r r1 _ R q e1 fun σ' R' => ?_⟩
    exact h2 c us ds σ' H W r1 r' Q R' t e2 k
/-- x, y = e -/
@[simp] def mAsg (st : D → RE → Option RE) (m : RE → Out (D × RE)) : RE → Out Fl := fun r => (m r).bnd fun p => match st p.1 p.2 with
  | some r' => .ok (.nx r')
  | none => .stuck
/-! ### loops -/
/-- what is walked, as data -/
def SndI (K : KW) (E : XK) (wi : TI) (m : RE → Out (List D × RE)) : Prop := ∀ (c : Fm) (σ : L2.St) (H : Hp) (W : Wd) (r : RE) (R : It → Hp → Prop), RR K c σ H W r →
  Wp (m r) (fun p => ∀ (J : It) (H' : Hp) (W' : Wd) (Gp : Hp → Prop) (Y : Nat → Hp → V → Hp → Prop), RR K c σ H' W' p.2 → Le W W' → Walk J p.1.length Gp Y →
    (∀ (σ2 : L2.St) (H2 : Hp) (W2 : Wd) (r2 : RE), RR K c σ2 H2 W2 r2 → Le W' W2 → Gp H2) →
    (∀ (i : Nat) (H2 : Hp) (W2 : Wd) (x : V) (H3 : Hp), Sub W2.g H2 → Le W' W2 → i < p.1.length → Y i H2 x H3 → ∃ W3 d, Ext H2 W2 H3 W3 ∧ p.1[i]? = some d ∧ RepD K W3 d x) → R J H') (XP K c E) → wi σ H R
@[simp] def mFor (mi : RE → Out (List D × RE)) (st : D → RE → Option RE) (b : RE → Out Fl) : RE → Out Fl := fun r => (mi r).bnd fun p => mLoop st b p.1 p.2
theorem snds_for {wi : TI} {mi : RE → Out (List D × RE)} {g : TG} {st : D → RE → Option RE} (hi : SndI K E wi mi) (hg : GS K E g st) (hb : SndS K E ts ms) : SndS K E (tFor wi g ts) (mFor mi st ms) := fun c σ H W r Dd R w => by
  refine hi c σ H W r _ R ((Wp.bnd w).mono (fun p q J H1 W1 Gp Y R1 s1 wk hG hY => ?_) fun _ _ x => x)
  obtain ⟨ds, r1⟩ := p
  refine for_it wk (fun i σ2 H2 => ∃ W2 r2, RR K c σ2 H2 W2 r2 ∧ Le W1 W2 ∧ Wp (mLoop st ms (ds.drop i) r2) (FlP K c W Dd) (XP K c E)) ⟨W1, r1, R1, Le.refl W1, q⟩ (fun i σ2 H2 _ ⟨W2, r2, R2, s2, _⟩ => hG σ2 H2 W2 r2 R2 s2) ?_ ?_
  · rintro i x σ2 H2 H3 hlt ⟨W2, r2, R2, s2, q2⟩ y
    obtain ⟨W3, d, x3, e3, h3⟩ := hY i H2 W2 x H3 R2.gh s2 hlt y
    have R3 := R2.ext x3
    have ed : ds.drop i = d :: ds.drop (i + 1) := by
      obtain ⟨hi', he⟩ := List.getElem?_eq_some_iff.mp e3
      rw [← he]
      exact List.drop_eq_getElem_cons hi'
    rw [ed] at q2
    simp only [mLoop] at q2
    cases e4 : st d r2 with
    | none => simp only [e4] at q2; exact q2.elim
    | some r3 =>
      simp only [e4] at q2
      refine hg c x d σ2 H3 W3 r2 r3 _ R3 h3 e4 fun σ3 R4 => ?_
      have s3 : Le W1 W3 := s2.trans x3.sub
      refine hb c σ3 H3 W3 r3 _ R4 ((Wp.bnd q2).mono (fun f q3 => ?_) fun _ _ x => x)
      cases f with
      | nx r4 => exact fun σ4 H4 W4 R5 s4 => ⟨W4, r4, R5, s3.trans s4, q3⟩
      | ct r4 => exact fun σ4 H4 W4 R5 s4 => ⟨W4, r4, R5, s3.trans s4, q3⟩
      | bk r4 => exact fun σ4 H4 W4 R5 s4 => q3 σ4 H4 W4 R5 ((s1.trans s3).trans s4)
      | rt d4 r4 => exact fun v σ4 H4 W4 R5 s4 h4 => q3 v σ4 H4 W4 R5 ((s1.trans s3).trans s4) h4
  · rintro σ2 H2 ⟨W2, r2, R2, s2, q2⟩
    rw [List.drop_length] at q2
    exact q2 σ2 H2 W2 R2 (s1.trans s2)
/-! what can be walked -/
@[simp] def asL : D → Out (List D)
  | .lst xs => .ok xs
  | .frl xs => .ok xs
  | _ => .stuck
@[simp] def asT : D → Out (List D)
  | .tup xs => .ok xs
  | _ => .stuck
@[simp] def mItem (f : D → Out (List D)) (m : RE → Out (D × RE)) : RE → Out (List D × RE) := fun r => (m r).bnd fun p => (f p.1).bnd fun ds => .ok (ds, p.2)
def chars (x : Str) : List D := x.cps.toList.map fun c => D.str ⟨#[c]⟩
@[simp] def asS : D → Out (List D)
  | .str x => .ok (chars x)
  | _ => .stuck
/-- range(n), range(a, b) -/
def rangeD (lo : Int) (n : Nat) : List D := (List.range n).map fun (i : Nat) => D.int (lo + i)
theorem rangeD_get {lo : Int} {n i : Nat} (h : i < n) : (rangeD lo n)[i]? = some (.int (lo + i)) := by
  unfold rangeD
  rw [List.getElem?_map, List.getElem?_range h]
  rfl
theorem rangeD_len {lo : Int} {n : Nat} : (rangeD lo n).length = n := by unfold rangeD; rw [List.length_map, List.length_range]
theorem walked_range {lo : Int} {n : Nat} {p2 : RE} {R : It → Hp → Prop} {H1 : Hp} {W1 : Wd} (R1 : RR K c σ H1 W1 p2) (s1 : Le W W1)
    (q : ∀ (J : It) (H' : Hp) (W' : Wd) (Gp : Hp → Prop) (Y : Nat → Hp → V → Hp → Prop), RR K c σ H' W' p2 → Le W W' → Walk J (rangeD lo n).length Gp Y →
    (∀ (σ2 : L2.St) (H2 : Hp) (W2 : Wd) (r2 : RE), RR K c σ2 H2 W2 r2 → Le W' W2 → Gp H2) →
    (∀ (i : Nat) (H2 : Hp) (W2 : Wd) (x : V) (H3 : Hp), Sub W2.g H2 → Le W' W2 → i < (rangeD lo n).length → Y i H2 x H3 → ∃ W3 d, Ext H2 W2 H3 W3 ∧ (rangeD lo n)[i]? = some d ∧ RepD K W3 d x) → R J H') : R (Itr lo n) H1 := by
  refine q _ H1 W1 _ _ R1 s1 (by rw [rangeD_len]; exact walk_range) (fun _ _ _ _ _ _ => trivial) ?_
  rintro i H2 W2 x H3 s2 s3 hi ⟨rfl, hx⟩
  rw [rangeD_len] at hi
  exact ⟨W2, _, Ext.refl s2, rangeD_get hi, by simp only [RepD]; exact hx⟩
theorem sndi_rng1 {ta : TA} {ms : RE → Out (List D × RE)} (h : SndA K E ta ms) : SndI K E (iRng1 ta) (fun r => (ms r).bnd fun p => match drs p.2.st p.1 with
  | some [.int j] => if -1000000 ≤ j ∧ j ≤ 1000000 then .ok (rangeD 0 j.toNat, p.2) else .stuck
  | _ => .stuck) := fun c σ H W r R R0 w => by
  refine h c σ H W r _ R0 ((Wp.bnd w).mono (fun p q vs H1 W1 R1 s1 h1 => ?_) fun _ _ x => x)
  split at q
  · rename_i j e
    split at q
    · rename_i hj
      have ht := h1.at R1 e
      cases ht with
      | cons h2 h3 =>
        cases h3
        simp only [RepT, RepD] at h2
        exact ⟨j, by rw [h2], by omega, by omega, walked_range R1 s1 q⟩
    · exact q.elim
  · exact q.elim
end
end Mir
set_option maxHeartbeats 1000000
namespace Mir
open PySem PySem.Spec PyProof.Rows L2
/-! ## defs -/
abbrev fm0 (H : Hp) (W : Wd) : Fm := ⟨H, W, []⟩
abbrev Fn := List D → Sto → Out (D × Sto)
/-- the heap part of the relation alone -/
abbrev R0 (K : KW) (c : Fm) (H : Hp) (W : Wd) (st : Sto) : Prop := RR K c [] H W ⟨[], st⟩
def PostP (K : KW) (H : Hp) (W : Wd) (Q : VK) (p : D × Sto) : Prop := ∀ v H' W', R0 K (fm0 H W) H' W' p.2 → RepD K W' p.1 v → Q v H'
/-- the promise: n arguments; the answer is m's -/
def spP (K : KW) (n : Nat) (m : Fn) : Sp := fun vs H Q E => vs.length = n ∧ ∃ ds st W, R0 K (fm0 H W) H W st ∧ RepL K W ds vs ∧ Wp (m ds st) (PostP K H W Q) (XP K (fm0 H W) E)
@[simp] def startR (N : Nat) (ds : List D) (st : Sto) : RE := ⟨ds.map some ++ List.replicate (N - ds.length) none, st⟩
@[simp] def runB (mb : RE → Out Fl) (r : RE) : Out (D × Sto) := (mb r).bnd fun f => match f with
  | .nx r' => .ok (.non, r'.st)
  | .rt d r' => .ok (d, r'.st)
  | _ => .stuck
section
variable {K : KW} {c : Fm} {σ : L2.St} {H H' : Hp} {W W' : Wd} {r : RE} {st st' : Sto}
theorem RR.zero (R : RR K c σ H W r) : R0 K c H W r.st := R.slots rfl (fun i d e => by simp at e)
/-- at a call -/
theorem RR.entry (R : RR K c σ H W r) : R0 K (fm0 H W) H W r.st :=
  ⟨R.gh, Le.refl W, fun a u e => .inl (by show W.g a ≠ none; rw [e]; simp), fun a u e => ⟨fun _ => ⟨⟨u, e, rfl⟩, fun _ => e⟩, fun _ _ _ => e⟩, fun a ha => R.there ha, rfl, fun i d e => by simp at e, R.cl, R.ce, fun a ha => ⟨(R.cg a ha).1, .inl ha⟩, R.cn, fun p z => absurd z (by simp)⟩
theorem RR.call (R : RR K c σ H W r) (a : R0 K (fm0 H W) H' W' st') : RR K c σ H' W' ⟨r.s, st'⟩ where
  gh := a.gh
  g0 := R.g0.trans a.g0
  gr := fun b u h => by
    rcases a.gr b u h with h1 | h1
    · cases e : W.g b with
      | none => exact absurd e h1
      | some u1 => exact R.gr b u1 e
    · exact .inr (R.heNone h1)
  ke := fun b u h => by
    obtain ⟨k0, k2⟩ := R.ke b u h
    refine ⟨fun hb => ?_, fun o v z => (a.ke b u (k2 o v z)).2 o v z⟩
    obtain ⟨⟨u', e', q⟩, k⟩ := k0 hb
    have hn : b ∉ W.b := fun z => by
      rcases (R.cg b z).2 with y | y
      · exact hb y
      · rw [h] at y; cases y
    obtain ⟨⟨u2, e2, q2⟩, k3⟩ := (a.ke b u' e').1 hn
    refine ⟨⟨u2, e2, q2.trans q⟩, fun z => ?_⟩
    have h1 := k z
    rw [h1] at e'; cases e'
    refine k3 ?_
    show W.g b = none
    cases e : W.g b with
    | none => rfl
    | some v =>
      rcases R.gr b v e with y | y
      · exact absurd z y
      · rw [h] at y; cases y
  xk := fun b hb => by
    obtain ⟨i, hi⟩ := List.mem_iff_getElem?.mp hb
    exact a.xk b (List.mem_iff_getElem?.mpr ⟨i, R.g0.p i b hi⟩)
  len := R.len
  sl := fun i d h => by
    obtain ⟨v, hv, hr⟩ := R.sl i d h
    exact ⟨v, hv, hr.mono a.g0⟩
  cl := a.cl
  ce := a.ce
  cg := fun b hb => by
    obtain ⟨h1, h2⟩ := a.cg b hb
    refine ⟨h1, ?_⟩
    rcases h2 with h2 | h2
    · exact (R.cg b h2).2
    · exact .inr (R.heNone h2)
  cn := a.cn
  lk := fun p hp => (a.ke p.1 _ (R.lk p hp)).2 _ _ rfl
theorem XP.call {E : XK} {x : Exn} (R : RR K c σ H W r) (h : XP K c E x st') : XP K (fm0 H W) E x st' := fun dx H' W' us R' hx rf =>
  h dx H' W' us (RR.call R.zero R') hx rf
theorem rr_start {N : List Str} {ds : List D} {vs : List V} (R : R0 K (fm0 H W) H W st) (h : RepL K W ds vs) : RR K (fm0 H W) (L2.start N vs) H W (startR N.length ds st) := by
  have hl := repL_len h
  refine R.slots (r := ⟨[], st⟩) ?_ fun i d e => ?_
  · unfold L2.start
    rw [List.length_append, List.length_append, List.length_map, List.length_map, List.length_replicate, List.length_replicate, hl]
  · have hi : i < ds.length := by
      by_cases hi : i < ds.length
      · exact hi
      · rw [List.getElem?_append_right (by simpa using hi), List.getElem?_replicate] at e
        split at e <;> cases e
    rw [List.getElem?_append_left (by simpa using hi), List.getElem?_map] at e
    have e' : ds[i]? = some d := by
      cases q : ds[i]? with
      | none => rw [q] at e; cases e
      | some x => rw [q] at e; cases e; rfl
    obtain ⟨v, hv, hd⟩ := repL_get2 h e'
    refine ⟨v, ?_, hd⟩
    unfold L2.start
    rw [List.getElem?_append_left (by rw [List.length_map, ← hl]; exact hi), List.getElem?_map, hv]
    rfl
/-- from a body's mirror to what the promise wants -/
theorem body_post {mb : RE → Out Fl} {Q : VK} {E : XK} (w : Wp (runB mb r) (PostP K H W Q) (XP K (fm0 H W) E)) :
    Wp (mb r) (FlP K (fm0 H W) W { nx := fun _ H' => Q .non H', rt := Q }) (XP K (fm0 H W) E) := by
  refine (Wp.bnd w).mono (fun f q => ?_) fun _ _ x => x
  cases f with
  | nx r' => exact fun σ' H' W' R s => q .non H' W' R.zero (by simp only [RepD])
  | rt d r' => exact fun v σ' H' W' R s h => q v H' W' R.zero h
  | bk r' => exact q.elim
  | ct r' => exact q.elim
end
/-! ## calls -/
section
variable {K : KW} {E : XK} {c : Fm} {σ : L2.St} {H H' : Hp} {W W' : Wd} {r : RE}
/-- f(..), the arguments' values, then the defaults dd -/
@[simp] def mCall (m : Fn) (dd : List D) (ms : RE → Out (List D × RE)) : RE → Out (D × RE) := fun r => (ms r).bnd fun p => (m (p.1 ++ dd) p.2.st).bnd fun q => .ok (q.1, ⟨p.2.s, q.2⟩)
theorem snd_call {ta : TA} {ms : RE → Out (List D × RE)} {n : Nat} {m : Fn} {dd : List D} {dvs : List V} (hn : ∀ ds st, m ds st ≠ .stuck → ds.length = n) (hd : ∀ W, RepL K W dd dvs) (h : SndA K E ta ms) : Snd K E (tCall (spP K n m) dvs E ta) (mCall m dd ms) := fun c σ H W r Q R w => by
  refine h c σ H W r _ R ((Wp.bnd w).mono (fun p q vs H1 W1 R1 s1 h1 => ?_) fun _ _ x => x)
  have rl := repL_app h1 (hd W1)
  refine ⟨?_, p.1 ++ dd, p.2.st, W1, R1.entry, rl, ?_⟩
  · rw [← repL_len rl]
    refine hn _ p.2.st fun z => ?_
    simp only [z] at q; exact q
  · refine (Wp.bnd q).mono (fun d q2 => ?_) fun x st hx => XP.call R1 hx
    exact fun v H' W' a hv => q2 v H' W' (RR.call R1 a) (s1.trans a.g0) hv
end
/-! ## the cut: what a def has made is frozen when it ends -/
mutual
def okC (n : Nat) : D → Bool
  | .cell c => decide (c < n)
  | .tup xs => okCL n xs
  | .lst xs => okCL n xs
  | .frl xs => okCL n xs
  | .dic kvs => okCK n kvs
  | .dct kvs => okCKT n kvs
  | .ins _ fs => okCF n fs
  | .lck d => okC n d
  | _ => true
def okCL (n : Nat) : List D → Bool
  | [] => true
  | d :: ds => okC n d && okCL n ds
def okCK (n : Nat) : List (Key × D) → Bool
  | [] => true
  | (_, d) :: ds => okC n d && okCK n ds
def okCKT (n : Nat) : List (KN.NK × D) → Bool
  | [] => true
  | (_, d) :: ds => okC n d && okCKT n ds
def okCF (n : Nat) : List (Str × D) → Bool
  | [] => true
  | (_, d) :: ds => okC n d && okCF n ds
end
def mapO {α β : Type} (f : α → Option β) : List α → Option (List β)
  | [] => some []
  | a :: as => match f a, mapO f as with
    | some b, some bs => some (b :: bs)
    | _, _ => none
def mapO2 {κ α β : Type} (f : α → Option β) : List (κ × α) → Option (List (κ × β))
  | [] => some []
  | (k, a) :: as => match f a, mapO2 f as with
    | some b, some bs => some ((k, b) :: bs)
    | _, _ => none
def rsv (st : Sto) (n : Nat) : Nat → D → Option D
  | 0, d => if okC n d = true then some d else none
  | k + 1, d => if okC n d = true then some d else match d with
    | .cell c => match st[c]? with
      | some d => rsv st n k (unlck d)
      | none => none
    | .tup xs => (mapO (rsv st n k) xs).map .tup
    | .lst xs => (mapO (rsv st n k) xs).map .lst
    | .dic kvs => (mapO2 (rsv st n k) kvs).map .dic
    | .dct kvs => (mapO2 (rsv st n k) kvs).map .dct
    | .ins C fs => (mapO2 (rsv st n k) fs).map (.ins C)
    | _ => none
open Classical in
noncomputable def cutSt (n : Nat) : Sto → Sto → Option Sto
  | [], _ => some []
  | _ :: _, [] => none
  | d :: ds, e :: es => if e = d ∨ okC n e = true then (cutSt n ds es).map (e :: ·) else none
noncomputable def cutR (st : Sto) (p : D × Sto) : Out (D × Sto) := match cutSt st.length st p.2, rsv p.2 st.length 20 p.1 with
  | some s, some d => .ok (d, s)
  | _, _ => .stuck
noncomputable def cutF (m : Fn) : Fn := fun ds st => match m ds st with
  | .ok p => cutR st p
  | .exc x st' => match cutSt st.length st st', mapO2 (rsv st' st.length 20) x.fs with
    | some s, some fs => .exc ⟨x.cls, fs⟩ s
    | _, _ => .stuck
  | .stuck => .stuck
section
variable {K : KW}
mutual
theorem RepD.okC {W : Wd} : ∀ {d : D} {v : V}, RepD K W d v → okC W.b.length d = true
  | .non, _, _ => rfl
  | .bl _, _, _ => rfl
  | .int _, _, _ => rfl
  | .str _, _, _ => rfl
  | .ty _, _, _ => rfl
  | .cell c, v, h => by
    simp only [RepD] at h
    obtain ⟨a, e, _⟩ := h
    simp only [Mir.okC, decide_eq_true_eq]
    exact (List.getElem?_eq_some_iff.mp e).1
  | .lck _, v, h => by simp only [RepD] at h
  | .tup ds, v, h => by simp only [RepD] at h; obtain ⟨a, vs, _, _, r⟩ := h; simp only [Mir.okC]; exact RepL.okC r
  | .lst ds, v, h => by simp only [RepD] at h; obtain ⟨a, vs, _, _, r⟩ := h; simp only [Mir.okC]; exact RepL.okC r
  | .frl ds, v, h => by simp only [RepD] at h; obtain ⟨a, vs, _, _, r⟩ := h; simp only [Mir.okC]; exact RepL.okC r
  | .dic ds, v, h => by simp only [RepD] at h; obtain ⟨a, vs, _, _, r⟩ := h; simp only [Mir.okC]; exact RepK.okC r
  | .dct ds, v, h => by simp only [RepD] at h; obtain ⟨a, vs, _, _, r⟩ := h; simp only [Mir.okC]; exact RepKT.okC r
  | .ins _ ds, v, h => by simp only [RepD] at h; obtain ⟨a, _, vs, _, _, r⟩ := h; simp only [Mir.okC]; exact RepF.okC r
theorem RepL.okC {W : Wd} : ∀ {d : List D} {v : List V}, RepL K W d v → okCL W.b.length d = true
  | [], _, _ => rfl
  | d :: ds, v, h => by
    simp only [RepL] at h
    obtain ⟨x, us, _, q, r⟩ := h
    simp only [Mir.okCL, Bool.and_eq_true]
    exact ⟨RepD.okC q, RepL.okC r⟩
theorem RepK.okC {W : Wd} : ∀ {d : List (Key × D)} {v : List (Key × V)}, RepK K W d v → okCK W.b.length d = true
  | [], _, _ => rfl
  | (k, d) :: ds, v, h => by
    simp only [RepK] at h
    obtain ⟨x, us, _, q, r⟩ := h
    simp only [Mir.okCK, Bool.and_eq_true]
    exact ⟨RepD.okC q, RepK.okC r⟩
theorem RepKT.okC {W : Wd} : ∀ {d : List (KN.NK × D)} {v : KN.Ens}, RepKT K W d v → okCKT W.b.length d = true
  | [], _, _ => rfl
  | (k, d) :: ds, v, h => by
    simp only [RepKT] at h
    obtain ⟨A, x, us, _, _, q, r⟩ := h
    simp only [Mir.okCKT, Bool.and_eq_true]
    exact ⟨RepD.okC q, RepKT.okC r⟩
theorem RepF.okC {W : Wd} : ∀ {d : List (Str × D)} {v : List (Str × V)}, RepF K W d v → okCF W.b.length d = true
  | [], _, _ => rfl
  | (k, d) :: ds, v, h => by
    simp only [RepF] at h
    obtain ⟨x, us, _, q, r⟩ := h
    simp only [Mir.okCF, Bool.and_eq_true]
    exact ⟨RepD.okC q, RepF.okC r⟩
end
mutual
theorem RepD.chb {g : Hp} {b b' : List Addr} {n : Nat} (hb : ∀ c, c < n → b[c]? = b'[c]?) : ∀ {d : D} {v : V}, Mir.okC n d = true → RepD K ⟨g, b⟩ d v → RepD K ⟨g, b'⟩ d v
  | .non, _, _, h => by simpa only [RepD] using h
  | .bl _, _, _, h => by simpa only [RepD] using h
  | .int _, _, _, h => by simpa only [RepD] using h
  | .str _, _, _, h => by simpa only [RepD] using h
  | .ty _, _, _, h => by simpa only [RepD] using h
  | .cell c, v, o, h => by
    simp only [RepD] at h ⊢
    obtain ⟨a, e, q⟩ := h
    simp only [Mir.okC, decide_eq_true_eq] at o
    exact ⟨a, (hb c o) ▸ e, q⟩
  | .lck _, v, _, h => by simp only [RepD] at h
  | .tup ds, v, o, h => by simp only [RepD] at h ⊢; obtain ⟨a, vs, e, q, r⟩ := h; exact ⟨a, vs, e, q, RepL.chb hb (by simpa only [Mir.okC] using o) r⟩
  | .lst ds, v, o, h => by simp only [RepD] at h ⊢; obtain ⟨a, vs, e, q, r⟩ := h; exact ⟨a, vs, e, q, RepL.chb hb (by simpa only [Mir.okC] using o) r⟩
  | .frl ds, v, o, h => by simp only [RepD] at h ⊢; obtain ⟨a, vs, e, q, r⟩ := h; exact ⟨a, vs, e, q, RepL.chb hb (by simpa only [Mir.okC] using o) r⟩
  | .dic ds, v, o, h => by simp only [RepD] at h ⊢; obtain ⟨a, vs, e, q, r⟩ := h; exact ⟨a, vs, e, q, RepK.chb hb (by simpa only [Mir.okC] using o) r⟩
  | .dct ds, v, o, h => by simp only [RepD] at h ⊢; obtain ⟨a, vs, e, q, r⟩ := h; exact ⟨a, vs, e, q, RepKT.chb hb (by simpa only [Mir.okC] using o) r⟩
  | .ins _ ds, v, o, h => by simp only [RepD] at h ⊢; obtain ⟨a, dx, vs, e, q, r⟩ := h; exact ⟨a, dx, vs, e, q, RepF.chb hb (by simpa only [Mir.okC] using o) r⟩
theorem RepL.chb {g : Hp} {b b' : List Addr} {n : Nat} (hb : ∀ c, c < n → b[c]? = b'[c]?) : ∀ {d : List D} {v : List V}, okCL n d = true → RepL K ⟨g, b⟩ d v → RepL K ⟨g, b'⟩ d v
  | [], _, _, h => by simpa only [RepL] using h
  | d :: ds, v, o, h => by
    simp only [RepL] at h ⊢
    simp only [okCL, Bool.and_eq_true] at o
    obtain ⟨x, us, e, q, r⟩ := h
    exact ⟨x, us, e, RepD.chb hb o.1 q, RepL.chb hb o.2 r⟩
theorem RepK.chb {g : Hp} {b b' : List Addr} {n : Nat} (hb : ∀ c, c < n → b[c]? = b'[c]?) : ∀ {d : List (Key × D)} {v : List (Key × V)}, okCK n d = true → RepK K ⟨g, b⟩ d v → RepK K ⟨g, b'⟩ d v
  | [], _, _, h => by simpa only [RepK] using h
  | (k, d) :: ds, v, o, h => by
    simp only [RepK] at h ⊢
    simp only [okCK, Bool.and_eq_true] at o
    obtain ⟨x, us, e, q, r⟩ := h
    exact ⟨x, us, e, RepD.chb hb o.1 q, RepK.chb hb o.2 r⟩
theorem RepKT.chb {g : Hp} {b b' : List Addr} {n : Nat} (hb : ∀ c, c < n → b[c]? = b'[c]?) : ∀ {d : List (KN.NK × D)} {v : KN.Ens}, okCKT n d = true → RepKT K ⟨g, b⟩ d v → RepKT K ⟨g, b'⟩ d v
  | [], _, _, h => by simpa only [RepKT] using h
  | (k, d) :: ds, v, o, h => by
    simp only [RepKT] at h ⊢
    simp only [okCKT, Bool.and_eq_true] at o
    obtain ⟨A, x, us, e, zk, q, r⟩ := h
    exact ⟨A, x, us, e, zk, RepD.chb hb o.1 q, RepKT.chb hb o.2 r⟩
theorem RepF.chb {g : Hp} {b b' : List Addr} {n : Nat} (hb : ∀ c, c < n → b[c]? = b'[c]?) : ∀ {d : List (Str × D)} {v : List (Str × V)}, okCF n d = true → RepF K ⟨g, b⟩ d v → RepF K ⟨g, b'⟩ d v
  | [], _, _, h => by simpa only [RepF] using h
  | (k, d) :: ds, v, o, h => by
    simp only [RepF] at h ⊢
    simp only [okCF, Bool.and_eq_true] at o
    obtain ⟨x, us, e, q, r⟩ := h
    exact ⟨x, us, e, RepD.chb hb o.1 q, RepF.chb hb o.2 r⟩
end
end
end Mir
set_option maxHeartbeats 1000000
namespace Mir
open PySem PySem.Spec PyProof.Rows L2
section
variable {K : KW} {c : Fm} {H H' : Hp} {W W' : Wd} {st st' s4 : Sto}
theorem Own.okC {d : D} {v : V} (h : Own K H W d v) : okC W.b.length d = true := by
  unfold Own at h
  split at h
  · obtain ⟨b, us, e, q, r⟩ := h; simp only [Mir.okC]; exact r.okC
  · obtain ⟨b, us, e, q, r⟩ := h; simp only [Mir.okC]; exact r.okC
  · obtain ⟨b, us, e, q, r⟩ := h; simp only [Mir.okC]; exact r.okC
  · obtain ⟨b, dx, us, e, q, r⟩ := h; simp only [Mir.okC]; exact r.okC
  · obtain ⟨b, us, o, e, q, r⟩ := h; simp only [Mir.okC]; exact r.okC
  · obtain ⟨b, us, o, e, q, r⟩ := h; simp only [Mir.okC]; exact r.okC
  · obtain ⟨b, us, o, e, q, r⟩ := h; simp only [Mir.okC]; exact r.okC
  · exact h.elim
theorem Own.chb {g : Hp} {b b' : List Addr} {n : Nat} (hb : ∀ c, c < n → b[c]? = b'[c]?) {d : D} {v : V} (o : Mir.okC n d = true) (h : Own K H ⟨g, b⟩ d v) : Own K H ⟨g, b'⟩ d v := by
  unfold Own at h ⊢
  split at h
  · simp only [Mir.okC] at o; obtain ⟨b, us, e, q, r⟩ := h; exact ⟨b, us, e, q, r.chb hb o⟩
  · simp only [Mir.okC] at o; obtain ⟨b, us, e, q, r⟩ := h; exact ⟨b, us, e, q, r.chb hb o⟩
  · simp only [Mir.okC] at o; obtain ⟨b, us, e, q, r⟩ := h; exact ⟨b, us, e, q, r.chb hb o⟩
  · simp only [Mir.okC] at o; obtain ⟨b, dx, us, e, q, r⟩ := h; exact ⟨b, dx, us, e, q, r.chb hb o⟩
  · simp only [Mir.okC] at o; obtain ⟨b, us, oo, e, q, r⟩ := h; exact ⟨b, us, oo, e, q, r.chb hb o⟩
  · simp only [Mir.okC] at o; obtain ⟨b, us, oo, e, q, r⟩ := h; exact ⟨b, us, oo, e, q, r.chb hb o⟩
  · simp only [Mir.okC] at o; obtain ⟨b, us, oo, e, q, r⟩ := h; exact ⟨b, us, oo, e, q, r.chb hb o⟩
  · exact h.elim
theorem cutSt_some {n : Nat} : ∀ {st st' s4 : Sto}, cutSt n st st' = some s4 → s4 = st'.take st.length ∧ st.length ≤ st'.length ∧ ∀ (i : Nat) (e : D), s4[i]? = some e → st[i]? = some e ∨ okC n e = true
  | [], st', s4, h => by
    unfold cutSt at h; cases h
    exact ⟨by simp, by simp, fun i e q => by simp at q⟩
  | d :: ds, [], s4, h => by unfold cutSt at h; cases h
  | d :: ds, e :: es, s4, h => by
    unfold cutSt at h
    split at h
    · rename_i hc
      cases q : cutSt n ds es with
      | none => rw [q] at h; cases h
      | some s5 =>
        rw [q] at h; cases h
        obtain ⟨h1, h2, h3⟩ := cutSt_some q
        refine ⟨by rw [h1]; simp, by simp; omega, fun i x hx => ?_⟩
        cases i with
        | zero =>
          simp at hx; subst hx
          rcases hc with hc | hc
          · exact .inl (by rw [hc]; rfl)
          · exact .inr hc
        | succ i => exact h3 i x (by simpa using hx)
    · cases h
/-- what was made is frozen -/
theorem cut_rr (R0' : R0 K (fm0 H W) H W st) (R : R0 K (fm0 H W) H' W' st') (hc : cutSt st.length st st' = some s4) :
    ∃ W4, R0 K (fm0 H W) H' W4 s4 ∧ (∀ k d d' v, RepD K W' d v → rsv st' st.length k d = some d' → RepD K W4 d' v) := by
  classical
  have hn : W.b.length = st.length := R0'.cl
  have hcl : W'.b.length = st'.length := R.cl
  obtain ⟨e4, hle, hok⟩ := cutSt_some hc
  let n := st.length
  let g3 : Hp := fun a => if a ∈ W'.b.drop n then H' a else W'.g a
  let W3 : Wd := ⟨g3, W'.b⟩
  let W4 : Wd := ⟨g3, W'.b.take n⟩
  have gB : ∀ a, a ∈ W'.b.drop n → g3 a = H' a := fun a h => if_pos h
  have gN : ∀ a, a ∉ W'.b.drop n → g3 a = W'.g a := fun a h => if_neg h
  have dB : ∀ a, a ∈ W'.b.drop n → a ∈ W'.b := fun a h => List.mem_of_mem_drop h
  have sub3 : Sub W'.g g3 := fun a u h => by
    have : a ∉ W'.b.drop n := fun z => by rw [(R.cg a (dB a z)).1] at h; cases h
    exact ⟨u, by rw [gN a this]; exact h, rfl⟩
  have le3 : Le W' W3 := ⟨sub3, fun _ _ e => e⟩
  have hb : ∀ c, c < n → W'.b[c]? = (W'.b.take n)[c]? := fun c h => by rw [List.getElem?_take, if_pos h]
  have nodr : ∀ a (i : Nat), W'.b[i]? = some a → i < n → a ∉ W'.b.drop n := fun a i h hi z => by
    obtain ⟨j, hj⟩ := List.mem_iff_getElem?.mp z
    rw [List.getElem?_drop] at hj
    have q1 := List.getElem?_eq_some_iff.mp h
    have q2 := List.getElem?_eq_some_iff.mp hj
    have := (List.getElem_inj R.cn).mp (q1.2.trans q2.2.symm)
    omega
  refine ⟨W4, ⟨fun a u h => ?_, ⟨R.g0.s.trans sub3, fun c a e => ?_⟩, fun a u h => ?_, R.ke, R.xk, rfl, fun i d e => by simp at e, ?_, fun i e a h1 h2 => ?_, fun a ha => ?_, R.cn.sublist (List.take_sublist _ _), fun p z => absurd z (by simp)⟩, ?_⟩
  · by_cases z : a ∈ W'.b.drop n
    · have h' : g3 a = some u := h
      rw [gB a z] at h'; exact ⟨u, h', rfl⟩
    · have h' : g3 a = some u := h
      rw [gN a z] at h'; exact R.gh a u h'
  · have h1 := R.g0.p c a e
    show (W'.b.take n)[c]? = some a
    rw [← hb c (by have := (List.getElem?_eq_some_iff.mp e).1; show c < st.length; rw [← hn]; exact this)]
    exact h1
  · by_cases z : a ∈ W'.b.drop n
    · rcases (R.cg a (dB a z)).2 with y | y
      · exfalso
        obtain ⟨i, hi⟩ := List.mem_iff_getElem?.mp y
        have hi' : W.b[i]? = some a := hi
        exact nodr a i (R.g0.p i a hi') (by have := (List.getElem?_eq_some_iff.mp hi').1; show i < st.length; rw [← hn]; exact this) z
      · exact .inr y
    · have h' : g3 a = some u := h
      rw [gN a z] at h'; exact R.gr a u h'
  · show (W'.b.take n).length = s4.length
    rw [e4, List.length_take, List.length_take, hcl]
  · have h2' : (W'.b.take n)[i]? = some a := h2
    have h1' : s4[i]? = some e := h1
    have hi : i < n := by
      have := (List.getElem?_eq_some_iff.mp h2').1
      rw [List.length_take] at this
      omega
    rw [← hb i hi] at h2'
    have h3 : st'[i]? = some e := by
      rw [e4, List.getElem?_take, if_pos hi] at h1'
      exact h1'
    have ho : okC n e = true := by
      rcases hok i e h1' with z | z
      · obtain ⟨a0, _, q⟩ := R0'.cell z
        have := q.okC
        rw [hn] at this
        exact this
      · exact z
    exact Own.chb hb ho ((R.ce i e a h3 h2').mono le3 (fun _ z => z))
  · have ha' : a ∈ W'.b.take n := ha
    obtain ⟨i, hi⟩ := List.mem_iff_getElem?.mp ha'
    have hlt : i < n := by
      have := (List.getElem?_eq_some_iff.mp hi).1
      rw [List.length_take] at this
      omega
    rw [← hb i hlt] at hi
    have hm : a ∈ W'.b := List.mem_iff_getElem?.mpr ⟨i, hi⟩
    refine ⟨?_, (R.cg a hm).2⟩
    show g3 a = none
    rw [gN a (nodr a i hi hlt)]
    exact (R.cg a hm).1
  · have main : ∀ k d d' v, RepD K W3 d v → rsv st' n k d = some d' → RepD K W4 d' v := by
      intro k
      induction k with
      | zero =>
        intro d d' v h e
        unfold rsv at e
        split at e
        · rename_i ho; cases e
          exact RepD.chb hb ho h
        · cases e
      | succ k ih =>
        have lL : ∀ {xs xs' : List D} {vs : List V}, RepL K W3 xs vs → mapO (rsv st' n k) xs = some xs' → RepL K W4 xs' vs := by
          intro xs
          induction xs with
          | nil => intro xs' vs h e; unfold mapO at e; cases e; simpa only [RepL] using h
          | cons x xs ihx =>
            intro xs' vs h e
            simp only [RepL] at h
            obtain ⟨v, us, ev, h1, h2⟩ := h
            unfold mapO at e
            cases q1 : rsv st' n k x with
            | none => rw [q1] at e; cases e
            | some x' =>
              cases q2 : mapO (rsv st' n k) xs with
              | none => rw [q1, q2] at e; cases e
              | some ys =>
                rw [q1, q2] at e; cases e
                simp only [RepL]
                exact ⟨v, us, ev, ih x x' v h1 q1, ihx h2 q2⟩
        have lK : ∀ {xs xs' : List (Key × D)} {vs : List (Key × V)}, RepK K W3 xs vs → mapO2 (rsv st' n k) xs = some xs' → RepK K W4 xs' vs := by
          intro xs
          induction xs with
          | nil => intro xs' vs h e; unfold mapO2 at e; cases e; simpa only [RepK] using h
          | cons x xs ihx =>
            obtain ⟨ky, x⟩ := x
            intro xs' vs h e
            simp only [RepK] at h
            obtain ⟨v, us, ev, h1, h2⟩ := h
            unfold mapO2 at e
            cases q1 : rsv st' n k x with
            | none => rw [q1] at e; cases e
            | some x' =>
              cases q2 : mapO2 (rsv st' n k) xs with
              | none => rw [q1, q2] at e; cases e
              | some ys =>
                rw [q1, q2] at e; cases e
                simp only [RepK]
                exact ⟨v, us, ev, ih x x' v h1 q1, ihx h2 q2⟩
        have lT : ∀ {xs xs' : List (KN.NK × D)} {vs : KN.Ens}, RepKT K W3 xs vs → mapO2 (rsv st' n k) xs = some xs' → RepKT K W4 xs' vs := by
          intro xs
          induction xs with
          | nil => intro xs' vs h e; unfold mapO2 at e; cases e; simpa only [RepKT] using h
          | cons x xs ihx =>
            obtain ⟨ky, x⟩ := x
            intro xs' vs h e
            simp only [RepKT] at h
            obtain ⟨A, v, us, ev, hk, h1, h2⟩ := h
            unfold mapO2 at e
            cases q1 : rsv st' n k x with
            | none => rw [q1] at e; cases e
            | some x' =>
              cases q2 : mapO2 (rsv st' n k) xs with
              | none => rw [q1, q2] at e; cases e
              | some ys =>
                rw [q1, q2] at e; cases e
                simp only [RepKT]
                exact ⟨A, v, us, ev, hk, ih x x' v h1 q1, ihx h2 q2⟩
        have lF : ∀ {xs xs' : List (Str × D)} {vs : List (Str × V)}, RepF K W3 xs vs → mapO2 (rsv st' n k) xs = some xs' → RepF K W4 xs' vs := by
          intro xs
          induction xs with
          | nil => intro xs' vs h e; unfold mapO2 at e; cases e; simpa only [RepF] using h
          | cons x xs ihx =>
            obtain ⟨ky, x⟩ := x
            intro xs' vs h e
            simp only [RepF] at h
            obtain ⟨v, us, ev, h1, h2⟩ := h
            unfold mapO2 at e
            cases q1 : rsv st' n k x with
            | none => rw [q1] at e; cases e
            | some x' =>
              cases q2 : mapO2 (rsv st' n k) xs with
              | none => rw [q1, q2] at e; cases e
              | some ys =>
                rw [q1, q2] at e; cases e
                simp only [RepF]
                exact ⟨v, us, ev, ih x x' v h1 q1, ihx h2 q2⟩
        intro d d' v h e
        unfold rsv at e
        split at e
        · rename_i ho; cases e
          exact RepD.chb hb ho h
        · rename_i ho
          cases d with
          | cell i =>
            simp only [RepD] at h
            obtain ⟨a, ha, rfl⟩ := h
            have ha' : W'.b[i]? = some a := ha
            have hi : ¬ i < n := fun z => ho (by simp only [Mir.okC, decide_eq_true_eq]; exact z)
            have hl : i < st'.length := by rw [← hcl]; exact (List.getElem?_eq_some_iff.mp ha').1
            simp only [List.getElem?_eq_getElem hl] at e
            have hown := R.ce i _ a (List.getElem?_eq_getElem hl) ha'
            obtain ⟨b, u, eb, hu⟩ := hown.ref
            cases eb
            have hdrop : a ∈ W'.b.drop n := by
              refine List.mem_iff_getElem?.mpr ⟨i - n, ?_⟩
              rw [List.getElem?_drop, show n + (i - n) = i by omega]; exact ha'
            exact ih _ _ _ (hown.at le3 hu (show g3 a = some u by rw [gB a hdrop]; exact hu)) e
          | tup xs =>
            simp only [RepD] at h
            obtain ⟨a, vs, ev, q, rl⟩ := h
            simp only at e
            cases q1 : mapO (rsv st' n k) xs with
            | none => rw [q1] at e; cases e
            | some ys => rw [q1] at e; cases e; simp only [RepD]; exact ⟨a, vs, ev, q, lL rl q1⟩
          | lst xs =>
            simp only [RepD] at h
            obtain ⟨a, vs, ev, q, rl⟩ := h
            simp only at e
            cases q1 : mapO (rsv st' n k) xs with
            | none => rw [q1] at e; cases e
            | some ys => rw [q1] at e; cases e; simp only [RepD]; exact ⟨a, vs, ev, q, lL rl q1⟩
          | dic xs =>
            simp only [RepD] at h
            obtain ⟨a, vs, ev, q, rl⟩ := h
            simp only at e
            cases q1 : mapO2 (rsv st' n k) xs with
            | none => rw [q1] at e; cases e
            | some ys => rw [q1] at e; cases e; simp only [RepD]; exact ⟨a, vs, ev, q, lK rl q1⟩
          | dct xs =>
            simp only [RepD] at h
            obtain ⟨a, vs, ev, q, rl⟩ := h
            simp only at e
            cases q1 : mapO2 (rsv st' n k) xs with
            | none => rw [q1] at e; cases e
            | some ys => rw [q1] at e; cases e; simp only [RepD]; exact ⟨a, vs, ev, q, lT rl q1⟩
          | ins C xs =>
            simp only [RepD] at h
            obtain ⟨a, dx, vs, ev, q, rl⟩ := h
            simp only at e
            cases q1 : mapO2 (rsv st' n k) xs with
            | none => rw [q1] at e; cases e
            | some ys => rw [q1] at e; cases e; simp only [RepD]; exact ⟨a, dx, vs, ev, q, lF rl q1⟩
          | _ => cases e
    exact fun k d d' v h e => main k d d' v (h.mono le3) e
theorem repF_rsv {W4 : Wd} {st' : Sto} {n k : Nat} (h : ∀ d d' v, RepD K W' d v → rsv st' n k d = some d' → RepD K W4 d' v) : ∀ {xs xs' : List (Str × D)} {vs : List (Str × V)}, RepF K W' xs vs → mapO2 (rsv st' n k) xs = some xs' → RepF K W4 xs' vs
  | [], xs', vs, r, e => by unfold mapO2 at e; cases e; simpa only [RepF] using r
  | (ky, x) :: xs, xs', vs, r, e => by
    simp only [RepF] at r
    obtain ⟨v, us, ev, h1, h2⟩ := r
    unfold mapO2 at e
    cases q1 : rsv st' n k x with
    | none => rw [q1] at e; cases e
    | some x' =>
      cases q2 : mapO2 (rsv st' n k) xs with
      | none => rw [q1, q2] at e; cases e
      | some ys =>
        rw [q1, q2] at e; cases e
        simp only [RepF]
        exact ⟨v, us, ev, h _ _ _ h1 q1, repF_rsv h h2 q2⟩
/-- a promise, cut -/
theorem sp_cut {n : Nat} {m : Fn} {vs : List V} {Q : VK} {E : XK} (h : spP K n (cutF m) vs H Q E) : spP K n m vs H Q E := by
  obtain ⟨hl, ds, st, W, R, rep, w⟩ := h
  refine ⟨hl, ds, st, W, R, rep, ?_⟩
  unfold cutF at w
  cases e : m ds st with
  | ok p =>
    rw [e] at w
    intro v H' W' R' rv
    simp only [cutR] at w
    split at w
    · rename_i s4 d4 h1 h2
      obtain ⟨W4, R4, hr⟩ := cut_rr R R' h1
      exact w v H' W4 R4 (hr _ _ _ _ rv h2)
    · exact w.elim
  | exc x st' =>
    rw [e] at w
    intro dx H' W' us R' hx rf
    simp only at w
    split at w
    · rename_i s4 fs h1 h2
      obtain ⟨W4, R4, hr⟩ := cut_rr R R' h1
      exact w dx H' W4 us R4 hx (repF_rsv (fun d d' v => hr _ d d' v) rf h2)
    · exact w.elim
  | stuck => rw [e] at w; exact w
end
/-! plain facts of the cut -/
@[simp] theorem rsv_ok {st : Sto} {n k : Nat} {d : D} (h : okC n d = true) : rsv st n k d = some d := by
  cases k <;> (unfold rsv; rw [if_pos h])
theorem rsv_cell {st : Sto} {n k c : Nat} {d : D} (h : ¬ c < n) (e : st[c]? = some d) : rsv st n (k + 1) (.cell c) = rsv st n k (unlck d) := by
  have : ¬ okC n (.cell c) = true := by simp only [okC, decide_eq_true_eq]; exact h
  rw [rsv, if_neg this]
  simp only [e]
theorem cutSt_app {n : Nat} : ∀ (st j : Sto), cutSt n st (st ++ j) = some st
  | [], j => rfl
  | d :: ds, j => by
    show cutSt n (d :: ds) (d :: (ds ++ j)) = _
    unfold cutSt
    rw [if_pos (.inl rfl), cutSt_app ds j]; rfl
theorem cutSt_set {n : Nat} {d : D} (h : okC n d = true) : ∀ (st j : Sto) (i : Nat), cutSt n st (st.set i d ++ j) = some (st.set i d)
  | [], j, i => rfl
  | x :: xs, j, 0 => by
    show cutSt n (x :: xs) (d :: (xs ++ j)) = some (d :: xs)
    unfold cutSt
    rw [if_pos (.inr h), cutSt_app xs j]; rfl
  | x :: xs, j, i + 1 => by
    show cutSt n (x :: xs) (x :: (xs.set i d ++ j)) = some (x :: xs.set i d)
    unfold cutSt
    rw [if_pos (.inl rfl), cutSt_set h xs j i]; rfl
end Mir
set_option maxHeartbeats 1000000
namespace Mir
open PySem PySem.Spec PyProof.Rows L2
/-! ## operations on data -/
@[simp] def dAdd : D → D → Out D
  | .int i, .int j => .ok (.int (i + j))
  | .str a, .str b => if a.length + b.length ≤ 1000000 then .ok (.str (a ++ b)) else .stuck
  | .lst a, .lst b => if a.length + b.length ≤ 1000000 then .ok (.lst (a ++ b)) else .stuck
  | .tup a, .tup b => if a.length + b.length ≤ 1000000 then .ok (.tup (a ++ b)) else .stuck
  | _, _ => .stuck
@[simp] def dSub : D → D → Out D
  | .int i, .int j => .ok (.int (i - j))
  | _, _ => .stuck
@[simp] def dMul : D → D → Out D
  | .int i, .int j => if (-10000000000000000000 < i ∧ i < 10000000000000000000) ∨ (-10000000000000000000 < j ∧ j < 10000000000000000000) then .ok (.int (i * j)) else .stuck
  | .lst a, .int k => if -1000000 ≤ k ∧ k ≤ 1000000 ∧ a.length * k.toNat ≤ 1000000 then .ok (.lst (List.replicate k.toNat a).flatten) else .stuck
  | _, _ => .stuck
@[simp] def dMod : D → D → Out D
  | .int i, .int j => if 0 < j then .ok (.int (i % j)) else .stuck
  | _, _ => .stuck
@[simp] def dDiv : D → D → Out D
  | .int i, .int j => if 0 < j ∧ j < 1073741824 then .ok (.int (i / j)) else .stuck
  | _, _ => .stuck
@[simp] def dPow : D → D → Out D
  | .int i, .int j => if 0 ≤ j ∧ j ≤ 1000000 ∧ i.natAbs < 10000000000000000000 then .ok (.int (i ^ j.toNat)) else .stuck
  | _, _ => .stuck
@[simp] def dLt : D → D → Out D
  | .int i, .int j => .ok (.bl (decide (i < j)))
  | .str a, .str b => .ok (.bl (decide (a.cps.toList < b.cps.toList)))
  | _, _ => .stuck
@[simp] def dLe : D → D → Out D
  | .int i, .int j => .ok (.bl (decide (i ≤ j)))
  | _, _ => .stuck
@[simp] def dGt : D → D → Out D
  | .int i, .int j => .ok (.bl (decide (j < i)))
  | _, _ => .stuck
@[simp] def dGe : D → D → Out D
  | .int i, .int j => .ok (.bl (decide (j ≤ i)))
  | _, _ => .stuck
@[simp] def dNeg : D → Out D
  | .int i => .ok (.int (-i))
  | _ => .stuck
@[simp] def scalD : D → Option V
  | .non => some .non
  | .bl b => some (.bl b)
  | .int i => some (.int i)
  | .str x => some (.str x)
  | _ => none
@[simp] def dEqS : D → D → Out D := fun a b => match scalD a, scalD b with
  | some x, some y => if scal x y = true then .ok (.bl (decide (x = y))) else .stuck
  | _, _ => .stuck
@[simp] def dNeS : D → D → Out D := fun a b => match scalD a, scalD b with
  | some x, some y => if scal x y = true then .ok (.bl (!decide (x = y))) else .stuck
  | _, _ => .stuck
@[simp] def isNon : D → Bool
  | .non => true
  | _ => false
@[simp] def dIs : D → D → Out D
  | a, .non => .ok (.bl (isNon a))
  | _, _ => .stuck
@[simp] def dIsNot : D → D → Out D
  | a, .non => .ok (.bl (!isNon a))
  | _, _ => .stuck
/-- one sign in a text -/
@[simp] def dInS : D → D → Out D
  | .str c, .str z => if c.cps.size = 1 then .ok (.bl (decide (c.cps.getD 0 0 ∈ z.cps.toList))) else .stuck
  | _, _ => .stuck
@[simp] def dNotInS : D → D → Out D
  | .str c, .str z => if c.cps.size = 1 then .ok (.bl (!decide (c.cps.getD 0 0 ∈ z.cps.toList))) else .stuck
  | _, _ => .stuck
@[simp] def dIx : D → D → Out D
  | .lst xs, .int i => match atI xs i with
    | some d => .ok d
    | none => .stuck
  | .frl xs, .int i => match atI xs i with
    | some d => .ok d
    | none => .stuck
  | .tup xs, .int i => match atI xs i with
    | some d => .ok d
    | none => .stuck
  | .str z, .int i => if z.length ≤ 1000000 then (match atI z.cps.toList i with
    | some c => .ok (.str ⟨#[c]⟩)
    | none => .stuck) else .stuck
  | _, _ => .stuck
def d1 (f : D → Out D) : List D → Out D
  | [a] => f a
  | _ => .stuck
def d2 (f : D → D → Out D) : List D → Out D
  | [a, b] => f a b
  | _ => .stuck
@[simp] theorem d1_one (f : D → Out D) (a : D) : d1 f [a] = f a := rfl
@[simp] theorem d2_two (f : D → D → Out D) (a b : D) : d2 f [a, b] = f a b := rfl
@[simp] def dLen : D → Out D
  | .str x => if x.length ≤ 1000000 then .ok (.int x.length) else .stuck
  | .lst xs => .ok (.int xs.length)
  | .frl xs => .ok (.int xs.length)
  | .tup xs => .ok (.int xs.length)
  | _ => .stuck
@[simp] def dInt : D → Out D
  | .int i => .ok (.int i)
  | .bl b => .ok (.int (if b then 1 else 0))
  | _ => .stuck
@[simp] def tyName : D → Option String
  | .non => some "NoneType"
  | .bl _ => some "bool"
  | .int _ => some "int"
  | .str _ => some "str"
  | .tup _ => some "tuple"
  | .lst _ => some "list"
  | .frl _ => some "list"
  | .dic _ => some "dict"
  | _ => none
@[simp] def isSub (a b : String) : Bool := a == b || (a == "bool" && b == "int")
@[simp] def tyList : List String := ["int", "bool", "str", "tuple", "list", "dict"]
/-- isinstance(x, T), T a built-in class -/
@[simp] def dIsi : D → D → Out D
  | d, .ty n => match tyName d with
    | some t => if n ∈ tyList then .ok (.bl (isSub t n)) else .stuck
    | none => .stuck
  | _, _ => .stuck
@[simp] theorem scal_ii (i j : Int) : scal (.int i) (.int j) = true := rfl
@[simp] theorem scal_bb (i j : Bool) : scal (.bl i) (.bl j) = true := rfl
@[simp] theorem scal_ss (i j : Str) : scal (.str i) (.str j) = true := rfl
@[simp] theorem scal_nn : scal .non .non = true := rfl
@[simp] theorem scal_ni (i : Int) : scal .non (.int i) = true := rfl
@[simp] theorem scal_in (i : Int) : scal (.int i) .non = true := rfl
@[simp] theorem scal_ns (i : Str) : scal .non (.str i) = true := rfl
@[simp] theorem scal_sn (i : Str) : scal (.str i) .non = true := rfl
theorem repT_int {K : KW} {H : Hp} {W : Wd} {i : Int} {v : V} (h : RepT K H W (.int i) v) : v = .int i := by simpa only [RepT, RepD] using h
theorem repT_tup {K : KW} {H : Hp} {W : Wd} {i : List D} {v : V} (h : RepT K H W (.tup i) v) : RepD K W (.tup i) v := by simpa only [RepT, RepD] using h
theorem repT_str {K : KW} {H : Hp} {W : Wd} {i : Str} {v : V} (h : RepT K H W (.str i) v) : v = .str i := by simpa only [RepT, RepD] using h
theorem repT_bl {K : KW} {H : Hp} {W : Wd} {i : Bool} {v : V} (h : RepT K H W (.bl i) v) : v = .bl i := by simpa only [RepT, RepD] using h
theorem repT_non {K : KW} {H : Hp} {W : Wd} {v : V} (h : RepT K H W .non v) : v = .non := by simpa only [RepT, RepD] using h
theorem repD_int {K : KW} {W : Wd} {i : Int} : RepD K W (.int i) (.int i) := by simp only [RepD]
theorem repD_str {K : KW} {W : Wd} {i : Str} : RepD K W (.str i) (.str i) := by simp only [RepD]
theorem repD_bl {K : KW} {W : Wd} {i : Bool} : RepD K W (.bl i) (.bl i) := by simp only [RepD]
theorem repD_non {K : KW} {W : Wd} : RepD K W .non .non := by simp only [RepD]
section
variable {K : KW}
/-- closes the goals of an operation on two ints -/
theorem opS_I0 {g : Int → Int → V} {f : D → D → Out D} {e : Int → Int → D} (hf : ∀ a b d, f a b = .ok d → ∃ i j, a = .int i ∧ b = .int j ∧ d = e i j) (hg : ∀ i j W, RepD K W (e i j) (g i j)) : OpS K (rI0 g) f := fun x y H W dx dy Q s hx hy d hd k => by
  obtain ⟨i, j, rfl, rfl, rfl⟩ := hf dx dy d hd
  exact ⟨i, j, repT_int hx, repT_int hy, k _ _ _ (Ext.refl s) (hg i j W)⟩
theorem opS_I {Cn : Int → Int → Prop} {g : Int → Int → V} {f : D → D → Out D} {e : Int → Int → D} (hf : ∀ a b d, f a b = .ok d → ∃ i j, a = .int i ∧ b = .int j ∧ Cn i j ∧ d = e i j) (hg : ∀ i j W, RepD K W (e i j) (g i j)) : OpS K (rI Cn g) f := fun x y H W dx dy Q s hx hy d hd k => by
  obtain ⟨i, j, rfl, rfl, hc, rfl⟩ := hf dx dy d hd
  exact ⟨i, j, repT_int hx, repT_int hy, hc, k _ _ _ (Ext.refl s) (hg i j W)⟩
theorem OpS.or {r r' : R2} {f : D → D → Out D} (h : ∀ (x y : V) (H : Hp) (W : Wd) (dx dy : D) (Q : VK), Sub W.g H → RepT K H W dx x → RepT K H W dy y → ∀ d, f dx dy = .ok d → (∀ v H' W', Ext H W H' W' → RepD K W' d v → Q v H') → r x y H Q ∨ r' x y H Q) : OpS K (fun x y H Q => r x y H Q ∨ r' x y H Q) f := h
theorem ops_mod : OpS K (rI (fun _ j => 0 < j) fun i j => .int (i % j)) dMod := opS_I (e := fun i j => .int (i % j)) (fun a b d h => by
  cases a <;> cases b <;> simp only [dMod, reduceCtorEq] at h
  split at h
  · cases h; exact ⟨_, _, rfl, rfl, by assumption, rfl⟩
  · cases h) fun _ _ _ => repD_int
theorem ops_div : OpS K (rI CDiv fun i j => .int (i / j)) dDiv := opS_I (e := fun i j => .int (i / j)) (fun a b d h => by
  cases a <;> cases b <;> simp only [dDiv, reduceCtorEq] at h
  split at h
  · cases h; exact ⟨_, _, rfl, rfl, by assumption, rfl⟩
  · cases h) fun _ _ _ => repD_int
theorem ops_pow : OpS K (rI CPow fun i j => .int (i ^ j.toNat)) dPow := opS_I (e := fun i j => .int (i ^ j.toNat)) (fun a b d h => by
  cases a <;> cases b <;> simp only [dPow, reduceCtorEq] at h
  split at h
  · cases h; exact ⟨_, _, rfl, rfl, by (rename_i hz; exact ⟨hz.1, hz.2.1, Nat.lt_of_lt_of_le hz.2.2 (by decide)⟩), rfl⟩
  · cases h) fun _ _ _ => repD_int
theorem ops_le : OpS K (rI0 fun i j => .bl (decide (i ≤ j))) dLe := opS_I0 (e := fun i j => .bl (decide (i ≤ j))) (fun a b d h => by
  cases a <;> cases b <;> simp only [dLe, reduceCtorEq, Out.ok.injEq] at h
  exact ⟨_, _, rfl, rfl, h.symm⟩) fun _ _ _ => repD_bl
theorem ops_gt : OpS K (rI0 fun i j => .bl (decide (j < i))) dGt := opS_I0 (e := fun i j => .bl (decide (j < i))) (fun a b d h => by
  cases a <;> cases b <;> simp only [dGt, reduceCtorEq, Out.ok.injEq] at h
  exact ⟨_, _, rfl, rfl, h.symm⟩) fun _ _ _ => repD_bl
theorem ops_ge : OpS K (rI0 fun i j => .bl (decide (j ≤ i))) dGe := opS_I0 (e := fun i j => .bl (decide (j ≤ i))) (fun a b d h => by
  cases a <;> cases b <;> simp only [dGe, reduceCtorEq, Out.ok.injEq] at h
  exact ⟨_, _, rfl, rfl, h.symm⟩) fun _ _ _ => repD_bl
abbrev rLtA : R2 := fun x y H Q => (rI0 fun i j => .bl (decide (i < j))) x y H Q ∨ (∃ i j, x = .str i ∧ y = .str j ∧ Q (.bl (decide (i.cps.toList < j.cps.toList))) H)
theorem ops_lt : OpS K rLtA dLt := fun x y H W dx dy Q s hx hy d hd k => by
  cases dx <;> cases dy <;> simp only [dLt, reduceCtorEq, Out.ok.injEq] at hd
  · subst hd; exact .inl ⟨_, _, repT_int hx, repT_int hy, k _ _ _ (Ext.refl s) repD_bl⟩
  · subst hd; exact .inr ⟨_, _, repT_str hx, repT_str hy, k _ _ _ (Ext.refl s) repD_bl⟩
theorem scalD_rep {H : Hp} {W : Wd} {d : D} {x v : V} (e : scalD d = some x) (h : RepT K H W d v) : v = x := by
  cases d <;> simp only [scalD, reduceCtorEq, Option.some.injEq] at e <;> subst e <;> simpa only [RepT, RepD] using h
theorem isNon_rep {H : Hp} {W : Wd} {d : D} {v : V} (h : RepT K H W d v) : isNon d = decide (v = .non) := by
  cases d <;> simp only [RepT, RepD] at h
  · subst h; rfl
  · subst h; rfl
  · subst h; rfl
  · subst h; rfl
  · subst h; rfl
  all_goals first
    | (obtain ⟨a, vs, rfl, _⟩ := h; rfl)
    | (obtain ⟨a, dx, vs, rfl, _⟩ := h; rfl)
abbrev rIs0 : R2 := fun x y H Q => y = .non ∧ Q (.bl (decide (x = .non))) H
abbrev rIsNot0 : R2 := fun x y H Q => y = .non ∧ Q (.bl (!decide (x = .non))) H
theorem ops_is : OpS K rIs0 dIs := fun x y H W dx dy Q s hx hy d hd k => by
  cases dy <;> simp only [dIs, reduceCtorEq, Out.ok.injEq] at hd
  subst hd
  refine ⟨repT_non hy, ?_⟩
  rw [← isNon_rep hx]
  exact k _ _ _ (Ext.refl s) repD_bl
theorem ops_isNot : OpS K rIsNot0 dIsNot := fun x y H W dx dy Q s hx hy d hd k => by
  cases dy <;> simp only [dIsNot, reduceCtorEq, Out.ok.injEq] at hd
  subst hd
  refine ⟨repT_non hy, ?_⟩
  rw [← isNon_rep hx]
  exact k _ _ _ (Ext.refl s) repD_bl
abbrev rAddA : R2 := fun x y H Q => (rI0 fun i j => .int (i + j)) x y H Q ∨ ((∃ i j, x = .str i ∧ y = .str j ∧ i.length + j.length ≤ sizeLine ∧ Q (.str (i ++ j)) H) ∨ (rCat x y H Q ∨ rCatA K x y H Q))
theorem ops_add : OpS K (rAddA (K := K)) dAdd := fun x y H W dx dy Q s hx hy d hd k => by
  cases dx <;> cases dy <;> simp only [dAdd, reduceCtorEq, Out.ok.injEq] at hd
  · subst hd; exact .inl ⟨_, _, repT_int hx, repT_int hy, k _ _ _ (Ext.refl s) repD_int⟩
  · split at hd
    · cases hd; exact .inr (.inl ⟨_, _, repT_str hx, repT_str hy, lim_le (by assumption), k _ _ _ (Ext.refl s) repD_str⟩)
    · cases hd
  · split at hd
    · rename_i hz
      cases hd
      obtain ⟨a, vs, ea, ha, la⟩ := hx
      obtain ⟨b, us, eb, hb, lb⟩ := hy
      refine .inr (.inr (.inr ⟨a, b, vs, us, ea, eb, SqT.of (s.tup ha), SqT.of (s.tup hb), ?_, fun z => ?_, fun _ z => ?_, fun _ _ p hp => ?_⟩))
      · rw [← repL_len la, ← repL_len lb]; exact lim_le hz
      · subst z
        have h0 := List.eq_nil_of_length_eq_zero (repL_len la)
        subst h0
        exact k _ _ _ (Ext.refl s) (repT_tup (H := H) ⟨b, us, rfl, hb, lb⟩)
      · subst z
        have h0 := List.eq_nil_of_length_eq_zero (repL_len lb)
        subst h0
        rw [List.append_nil] at k
        exact k _ _ _ (Ext.refl s) (repT_tup (H := H) ⟨a, vs, rfl, ha, la⟩)
      · refine k _ _ _ (Ext.alloc s hp) ?_
        simp only [RepD]
        exact ⟨p, vs ++ us, rfl, upd_same, (repL_app la lb).mono (Le.new (s.no hp))⟩
    · cases hd
  · split at hd
    · rename_i hz
      cases hd
      obtain ⟨a, vs, ea, ha, la⟩ := hx
      obtain ⟨b, us, eb, hb, lb⟩ := hy
      refine .inr (.inr (.inl ⟨a, b, vs, us, ea, eb, ha, hb, ?_, fun p hp => ?_⟩))
      · rw [← repL_len la, ← repL_len lb]; exact lim_le hz
      · refine k _ _ _ (Ext.alloc s hp) ?_
        simp only [RepD]
        exact ⟨p, vs ++ us, rfl, upd_same, (repL_app la lb).mono (Le.new (s.no hp))⟩
    · cases hd
theorem repL_rep {W : Wd} {ds : List D} {vs : List V} (h : RepL K W ds vs) : ∀ n : Nat, RepL K W (List.replicate n ds).flatten (List.replicate n vs).flatten
  | 0 => by simp only [List.replicate_zero, List.flatten_nil, RepL]
  | n + 1 => by
    rw [List.replicate_succ, List.replicate_succ, List.flatten_cons, List.flatten_cons]
    exact repL_app h (repL_rep h n)
abbrev rMulA : R2 := fun x y H Q => (rI CMul fun i j => .int (i * j)) x y H Q ∨ rRep x y H Q
theorem ops_mul : OpS K rMulA dMul := fun x y H W dx dy Q s hx hy d hd k => by
  cases dx <;> cases dy <;> simp only [dMul, reduceCtorEq, Out.ok.injEq] at hd
  · split at hd
    · rename_i hz; cases hd; exact .inl ⟨_, _, repT_int hx, repT_int hy, hz.elim (fun z => .inl ⟨by omega, by omega⟩) (fun z => .inr ⟨by omega, by omega⟩), k _ _ _ (Ext.refl s) repD_int⟩
    · cases hd
  · split at hd
    · rename_i hz
      cases hd
      obtain ⟨a, vs, ea, ha, la⟩ := hx
      refine .inr ⟨a, _, vs, ea, repT_int hy, ha, by omega, by omega, by rw [← repL_len la]; exact lim_le hz.2.2, fun p hp => ?_⟩
      refine k _ _ _ (Ext.alloc s hp) ?_
      simp only [RepD]
      exact ⟨p, _, rfl, upd_same, (repL_rep la _).mono (Le.new (s.no hp))⟩
    · cases hd
theorem chr_eta {c : Str} (h : c.cps.size = 1) : c = ⟨#[c.cps.getD 0 0]⟩ := by
  obtain ⟨⟨l⟩⟩ := c
  match l, h with
  | [a], _ => rfl
theorem atI_rep {W : Wd} {ds : List D} {vs : List V} {i : Int} {d : D} (h : RepL K W ds vs) (e : atI ds i = some d) : ∃ v, atI vs i = some v ∧ RepD K W d v := by
  unfold atI at e ⊢
  rw [← repL_len h]
  cases q : ixN ds.length i with
  | none => rw [q] at e; cases e
  | some j =>
    rw [q] at e
    exact repL_get2 h e
abbrev rIxA (K : PySem.W.Frag) : R2 := fun x y H Q => rIxL K x y H Q ∨ (rIxT K x y H Q ∨ rIxS x y H Q)
theorem IxR.or {X : Cx} {r r' : R2} (h : IxR X r) (h' : IxR X r') : IxR X (fun x y H Q => r x y H Q ∨ r' x y H Q) := fun a b pins s σ H x y v u Q I rx ry hq hp => by
  rcases hq with q | q
  · exact h a b pins s σ H x y v u Q I rx ry q hp
  · exact h' a b pins s σ H x y v u Q I rx ry q hp
theorem ops_ix : OpS K (rIxA K) dIx := fun x y H W dx dy Q s hx hy d hd k => by
  cases dx <;> cases dy <;> simp only [dIx, reduceCtorEq, Out.ok.injEq] at hd
  · split at hd
    · rename_i hz
      split at hd
      · rename_i c hc
        cases hd
        exact .inr (.inr ⟨_, _, _, repT_str hx, repT_int hy, lim_le hz, hc, k _ _ _ (Ext.refl s) repD_str⟩)
      · cases hd
    · cases hd
  · split at hd
    · rename_i hc
      cases hd
      obtain ⟨a, vs, ea, ha, la⟩ := hx
      obtain ⟨v, hv, hd⟩ := atI_rep la hc
      exact .inr (.inl ⟨a, vs, _, v, ea, repT_int hy, SqT.of (s.tup ha), hv, k _ _ _ (Ext.refl s) hd⟩)
    · cases hd
  · split at hd
    · rename_i hc
      cases hd
      obtain ⟨a, vs, ea, ha, la⟩ := hx
      obtain ⟨v, hv, hd⟩ := atI_rep la hc
      exact .inl ⟨a, vs, _, v, ea, repT_int hy, SqL.of ha, hv, k _ _ _ (Ext.refl s) hd⟩
    · cases hd
  · split at hd
    · rename_i hc
      cases hd
      obtain ⟨a, vs, ea, ha, la⟩ := hx
      obtain ⟨v, hv, hd⟩ := atI_rep la hc
      exact .inl ⟨a, vs, _, v, ea, repT_int hy, ha, hv, k _ _ _ (Ext.refl s) hd⟩
    · cases hd
theorem calls_1 {rr : List V → Hp → VK → Prop} {f : D → Out D} (h : ∀ (x : V) (H : Hp) (W : Wd) (dx : D) (Q : VK), Sub W.g H → RepT K H W dx x → ∀ d, f dx = .ok d → (∀ v H' W', Ext H W H' W' → RepD K W' d v → Q v H') → rr [x] H Q) : CallS K rr (d1 f) := fun xs H W ds Q s hx d hd k => by
  match ds, hx, hd with
  | [_], .cons h1 .nil, hd => exact h _ H W _ Q s h1 d hd k
theorem calls_2 {rr : List V → Hp → VK → Prop} {f : D → D → Out D} (h : ∀ (x y : V) (H : Hp) (W : Wd) (dx dy : D) (Q : VK), Sub W.g H → RepT K H W dx x → RepT K H W dy y → ∀ d, f dx dy = .ok d → (∀ v H' W', Ext H W H' W' → RepD K W' d v → Q v H') → rr [x, y] H Q) : CallS K rr (d2 f) := fun xs H W ds Q s hx d hd k => by
  match ds, hx, hd with
  | [_, _], .cons h1 (.cons h2 .nil), hd => exact h _ _ H W _ _ Q s h1 h2 d hd k
theorem callf_1 {rr : List V → Hp → VK → Prop} {f : D → Out D} (h : ∀ (x : V) (H : Hp) (W : Wd) (dx : D) (Q : VK), Sub W.g H → RepT K H W dx x → ∀ d, f dx = .ok d → (∀ p o, H p = none → Own K (upd H p o) W d (.ref p) → Q (.ref p) (upd H p o)) → rr [x] H Q) : CallF K rr (d1 f) := fun xs H W ds Q s hx d hd k => by
  match ds, hx, hd with
  | [_], .cons h1 .nil, hd => exact h _ H W _ Q s h1 d hd k
theorem nox_d1 {f : D → Out D} (h : NoX1 f) : NoX1 (d1 f) := fun ds x st e => by
  match ds, e with
  | [a], e => exact h a x st e
theorem nox_d2 {f : D → D → Out D} (h : NoX2 f) : NoX1 (d2 f) := fun ds x st e => by
  match ds, e with
  | [a, b], e => exact h a b x st e
theorem calls_len : CallS K (fun xs H Q => ∃ x n, xs = [x] ∧ LenV K x H n ∧ Q (.int n) H) (d1 dLen) := calls_1 fun x H W dx Q s h1 d hd k => by
  cases dx <;> simp only [dLen, reduceCtorEq, Out.ok.injEq] at hd
  · split at hd
    · rename_i hz
      cases hd
      rw [repT_str h1]
      exact ⟨_, _, rfl, ⟨lim_le hz, rfl⟩, k _ _ _ (Ext.refl s) repD_int⟩
    · cases hd
  · subst hd
    obtain ⟨a, vs, ea, ha, la⟩ := h1
    subst ea
    exact ⟨_, _, rfl, .inr ⟨vs, SqT.of (s.tup ha), rfl⟩, k _ _ _ (Ext.refl s) (by rw [repL_len la]; exact repD_int)⟩
  · subst hd
    obtain ⟨a, vs, ea, ha, la⟩ := h1
    subst ea
    exact ⟨_, _, rfl, .inl ⟨vs, SqL.of ha, rfl⟩, k _ _ _ (Ext.refl s) (by rw [repL_len la]; exact repD_int)⟩
  · subst hd
    obtain ⟨a, vs, ea, ha, la⟩ := h1
    subst ea
    exact ⟨_, _, rfl, .inl ⟨vs, ha, rfl⟩, k _ _ _ (Ext.refl s) (by rw [repL_len la]; exact repD_int)⟩
theorem calls_int : CallS K (fun xs H Q => (∃ i, xs = [.int i] ∧ Q (.int i) H) ∨ ∃ k, xs = [.bl k] ∧ Q (.int (if k then 1 else 0)) H) (d1 dInt) := calls_1 fun x H W dx Q s h1 d hd k => by
  cases dx <;> simp only [dInt, reduceCtorEq, Out.ok.injEq] at hd
  · subst hd; rw [repT_bl h1]; exact .inr ⟨_, rfl, k _ _ _ (Ext.refl s) repD_int⟩
  · subst hd; rw [repT_int h1]; exact .inl ⟨_, rfl, k _ _ _ (Ext.refl s) repD_int⟩
theorem tyName_ok {H : Hp} {W : Wd} {d : D} {v : V} {t : String} (s : Sub W.g H) (e : tyName d = some t) (h : RepT K H W d v) : TyX K H v (.type t) := by
  cases d <;> simp only [tyName, reduceCtorEq, Option.some.injEq] at e <;> subst e
  · rw [repT_non h]; exact .base .non
  · rw [repT_bl h]; exact .base (.bl _)
  · rw [repT_int h]; exact .base (.int _)
  · rw [repT_str h]; exact .base (.str _)
  · obtain ⟨a, vs, ea, ha, la⟩ := h; subst ea; exact .base (.tup (s.tup ha))
  · obtain ⟨a, vs, ea, ha, la⟩ := h; subst ea; exact .base (.lst ha)
  · obtain ⟨a, vs, ea, ha, la⟩ := h
    subst ea
    rcases ha with (ha | ⟨o, ha⟩) | ⟨o, its, n, hk, hc, _⟩
    · exact .base (.lst ha)
    · exact .base (.frz ha)
    · exact .kList hk hc
  · obtain ⟨a, vs, ea, ha, la⟩ := h
    subst ea
    rcases ha with ha | ⟨o, ha⟩
    · exact .base (.dK ha)
    · exact .fDict ha
theorem kit_all {t n : String} (ht : t ∈ ["NoneType", "bool", "int", "str", "tuple", "list", "dict"]) (hn : n ∈ tyList) : PySem.W.kitOne K (.type t) (.type n) = some (isSub t n) := by
  refine kit_ty ?_
  have all : ∀ t ∈ ["NoneType", "bool", "int", "str", "tuple", "list", "dict"], ∀ n ∈ tyList, kitB t n = some (isSub t n) := by decide +kernel
  exact all t ht n hn
theorem tyName_mem {d : D} {t : String} (e : tyName d = some t) : t ∈ ["NoneType", "bool", "int", "str", "tuple", "list", "dict"] := by
  cases d <;> simp only [tyName, reduceCtorEq, Option.some.injEq] at e <;> subst e <;> decide
theorem calls_isi : CallS K (rIsi K) (d2 dIsi) := calls_2 fun x y H W dx dy Q s hx hy d hd k => by
  cases dy <;> simp only [dIsi, reduceCtorEq] at hd
  rename_i n
  split at hd
  · rename_i t ht
    split at hd
    · rename_i hn
      cases hd
      have hy' : y = .ty n := by simpa only [RepT, RepD] using hy
      subst hy'
      exact ⟨x, .ty n, .type t, .type n, _, rfl, .ty n, tyName_ok s ht hx, kit_all (tyName_mem ht) hn, k _ _ _ (Ext.refl s) repD_bl⟩
    · cases hd
  · cases hd
/-! none of these raises -/
theorem nx_add : NoX2 dAdd := fun a b x st h => by cases a <;> cases b <;> simp only [dAdd, reduceCtorEq] at h <;> split at h <;> cases h
theorem nx_mul : NoX2 dMul := fun a b x st h => by cases a <;> cases b <;> simp only [dMul, reduceCtorEq] at h <;> split at h <;> cases h
theorem nx_mod : NoX2 dMod := fun a b x st h => by cases a <;> cases b <;> simp only [dMod, reduceCtorEq] at h <;> split at h <;> cases h
theorem nx_div : NoX2 dDiv := fun a b x st h => by cases a <;> cases b <;> simp only [dDiv, reduceCtorEq] at h <;> split at h <;> cases h
theorem nx_pow : NoX2 dPow := fun a b x st h => by cases a <;> cases b <;> simp only [dPow, reduceCtorEq] at h <;> split at h <;> cases h
theorem nx_lt : NoX2 dLt := fun a b x st h => by cases a <;> cases b <;> simp only [dLt, reduceCtorEq] at h
theorem nx_le : NoX2 dLe := fun a b x st h => by cases a <;> cases b <;> simp only [dLe, reduceCtorEq] at h
theorem nx_gt : NoX2 dGt := fun a b x st h => by cases a <;> cases b <;> simp only [dGt, reduceCtorEq] at h
theorem nx_ge : NoX2 dGe := fun a b x st h => by cases a <;> cases b <;> simp only [dGe, reduceCtorEq] at h
theorem nx_is : NoX2 dIs := fun a b x st h => by cases b <;> simp only [dIs, reduceCtorEq] at h
theorem nx_isNot : NoX2 dIsNot := fun a b x st h => by cases b <;> simp only [dIsNot, reduceCtorEq] at h
theorem nx_ix : NoX2 dIx := fun a b x st h => by cases a <;> cases b <;> simp only [dIx, reduceCtorEq] at h <;> split at h <;> (try split at h) <;> cases h
theorem nx_len : NoX1 dLen := fun a x st h => by cases a <;> simp only [dLen, reduceCtorEq] at h <;> split at h <;> cases h
theorem nx_int : NoX1 dInt := fun a x st h => by cases a <;> simp only [dInt, reduceCtorEq] at h
theorem nx_isi : NoX2 dIsi := fun a b x st h => by cases b <;> simp only [dIsi, reduceCtorEq] at h <;> split at h <;> (try split at h) <;> cases h
end
end Mir
set_option maxHeartbeats 1000000
namespace Mir
open PySem PySem.Spec PyProof.Rows L2
section
variable {K : KW} {E : XK} {c : Fm} {σ σ' : L2.St} {H H' : Hp} {W W' : Wd} {r r' : RE}
/-- a frame within the frame -/
def nest (c : Fm) (H : Hp) (W : Wd) : Fm := ⟨H, W, c.lk⟩
theorem RR.enter (R : RR K c σ H W r) : RR K (nest c H W) σ H W r :=
  ⟨R.gh, Le.refl W, fun a u e => .inl (by show W.g a ≠ none; rw [e]; simp), fun a u e => ⟨fun _ => ⟨⟨u, e, rfl⟩, fun _ => e⟩, fun _ _ _ => e⟩, fun a ha => R.there ha, R.len, R.sl, R.cl, R.ce, fun a ha => ⟨(R.cg a ha).1, .inl ha⟩, R.cn, R.lk⟩
theorem RR.leave (R : RR K c σ H W r) (R' : RR K (nest c H W) σ' H' W' r') : RR K c σ' H' W' r' := by
  have R2 : R0 K (fm0 H W) H' W' r'.st := ⟨R'.gh, R'.g0, R'.gr, R'.ke, R'.xk, rfl, fun i d e => by simp at e, R'.cl, R'.ce, R'.cg, R'.cn, fun p z => absurd z (by simp)⟩
  exact (RR.call R.zero R2).slots (r := ⟨[], r'.st⟩) R'.len R'.sl
theorem XP.nest {x : Exn} {st : Sto} (R : RR K c σ H W r) (h : XP K c E x st) : XP K (nest c H W) E x st := fun dx H' W' us R' hx rf => h dx H' W' us (RR.leave R.zero R') hx rf
/-- a thing that nobody knows changes -/
theorem RR.other (R : RR K c σ H W r) {p : Addr} {o : HO} (hg : W.g p = none) (he : c.He p = none) (hb : p ∉ W.b) (hl : ∀ q ∈ c.lk, q.1 ≠ p) : RR K c σ (upd H p o) W r :=
  ⟨R.gh.mut hg, R.g0, R.gr, fun a u e => by
    have : a ≠ p := fun z => by rw [z, he] at e; cases e
    rw [upd_ne this]; exact R.ke a u e, fun a ha => by
    by_cases z : a = p
    · rw [z, upd_same]; simp
    · rw [upd_ne z]; exact R.xk a ha, R.len, R.sl, R.cl, fun i d a h1 h2 => (R.ce i d a h1 h2).mono (Le.refl W) (fun u q => by
      have : a ≠ p := fun z => hb (z ▸ List.mem_iff_getElem?.mpr ⟨i, h2⟩)
      rw [upd_ne this]; exact q), R.cg, R.cn, fun q hq => by rw [upd_ne (hl q hq)]; exact R.lk q hq⟩
/-! ## comprehensions -/
@[simp] def wipeL (s : List (Option D)) : List Nat → List (Option D)
  | [] => s
  | v :: vs => (wipeL s vs).set v none
theorem RR.wipe (R : RR K c σ H W r) : ∀ (vs : List Nat), RR K c (L2.wipe σ vs) H W ⟨wipeL r.s vs, r.st⟩
  | [] => R
  | v :: vs => (RR.wipe R vs).drop (x := none)
theorem wipe_get {σ : L2.St} : ∀ {vs : List Nat} {i : Nat}, i ∉ vs → (L2.wipe σ vs)[i]? = σ[i]?
  | [], i, _ => rfl
  | v :: vs, i, h => by
    show ((L2.wipe σ vs).set v none)[i]? = _
    rw [List.getElem?_set_ne (show v ≠ i from fun e => h (by rw [e]; exact List.mem_cons_self))]
    exact wipe_get fun z => h (List.mem_cons_of_mem _ z)
theorem wipe_none {σ : L2.St} : ∀ {vs : List Nat} {i : Nat} {x : V}, i ∈ vs → (L2.wipe σ vs)[i]? ≠ some (some x)
  | v :: vs, i, x, h => by
    show ((L2.wipe σ vs).set v none)[i]? ≠ _
    by_cases e : v = i
    · subst e
      intro z
      have := get_set_self z
      cases this
    · rw [List.getElem?_set_ne e]
      exact wipe_none ((List.mem_cons.mp h).elim (fun z => absurd z.symm e) id)
theorem wipe_len {σ : L2.St} : ∀ {vs : List Nat}, (L2.wipe σ vs).length = σ.length
  | [] => rfl
  | v :: vs => by show ((L2.wipe σ vs).set v _).length = _; rw [List.length_set]; exact wipe_len
theorem wipe_wipe (us : List Nat) (τ : L2.St) : L2.wipe (L2.wipe τ us) us = L2.wipe τ us := by
  refine List.ext_getElem? fun j => ?_
  by_cases hj : j ∈ us
  · by_cases hl : j < τ.length
    · have h1 : ∀ τ' : L2.St, τ'.length = τ.length → (L2.wipe τ' us)[j]? = some none := fun τ' hl' => by
        have hlt : j < (L2.wipe τ' us).length := by rw [wipe_len, hl']; exact hl
        cases e : (L2.wipe τ' us)[j]? with
        | none => rw [List.getElem?_eq_none_iff] at e; omega
        | some z => cases z with
          | none => rfl
          | some w => exact absurd e (wipe_none hj)
      rw [h1 _ wipe_len, h1 _ rfl]
    · rw [List.getElem?_eq_none (by rw [wipe_len, wipe_len]; omega), List.getElem?_eq_none (by rw [wipe_len]; omega)]
  · rw [wipe_get hj]
/-- the slots as they were, in a later world -/
theorem RR.old {H0 : Hp} {W0 : Wd} {r0 : RE} (R0' : RR K c σ H0 W0 r0) (s : Le W0 W) (R : RR K c σ' H W r) : RR K c σ H W ⟨r0.s, r.st⟩ :=
  R.slots R0'.len fun i d e => by
    obtain ⟨v, h1, h2⟩ := R0'.sl i d e
    exact ⟨v, h1, h2.mono s⟩
def mCompL (s0 : List (Option D)) (st : D → RE → Option RE) (mt : RE → Out (Bool × RE)) (me : RE → Out (D × RE)) : List D → Sto → List D → Out (List D × Sto)
  | [], so, acc => .ok (acc, so)
  | x :: xs, so, acc => match st x ⟨s0, so⟩ with
    | none => .stuck
    | some r1 => (mt r1).bnd fun p => if p.1 = true then (me p.2).bnd fun q => if acc.length < 1000000 then mCompL s0 st mt me xs q.2.st (acc ++ [q.1]) else .stuck
      else mCompL s0 st mt me xs p.2.st acc
@[simp] def mComp (vs : List Nat) (mi : RE → Out (List D × RE)) (st : D → RE → Option RE) (mt : RE → Out (Bool × RE)) (me : RE → Out (D × RE)) : RE → Out (D × RE) := fun r => (mi r).bnd fun p => (mCompL (wipeL p.2.s vs) st mt me p.1 p.2.st []).bnd fun q => .ok (.lst q.1, ⟨p.2.s, q.2⟩)
/-- a target sets its slots alone -/
def GV (g : TG) (vs : List Nat) : Prop := ∀ (v : V) (σ : L2.St) (H : Hp) (Q Q' : L2.St → Hp → Prop), (∀ σ' H', Q σ' H' → L2.wipe σ' vs = L2.wipe σ vs → Q' σ' H') → g v σ H Q → g v σ H Q'
theorem gv_name {i : Nat} : GV (gName i) [i] := fun v σ H Q Q' h k => h _ _ k (by show (σ.set i (some v)).set i none = σ.set i none; rw [List.set_set])
/-- the turns of a comprehension, from where what is walked has come -/
theorem comp_core {J : It} {Gp : Hp → Prop} {Y : Nat → Hp → V → Hp → Prop} {ds : List D} {g : TG} {tt : TT} {te : TE} {vs : List Nat} {st : D → RE → Option RE} {mt : RE → Out (Bool × RE)} {me : RE → Out (D × RE)} {Dn : Addr} {Qd : Hp → Prop}
    (hgv : GV g vs) (hg : GS K E g st) (ht : SndT K E tt mt) (he : Snd K E te me) (R1 : RR K c σ H W r) (wk : Walk J ds.length Gp Y)
    (hG : ∀ (σ2 : L2.St) (H2 : Hp) (W2 : Wd) (r2 : RE), RR K c σ2 H2 W2 r2 → Le W W2 → Gp H2)
    (hY : ∀ (i : Nat) (H2 : Hp) (W2 : Wd) (x : V) (H3 : Hp), Sub W2.g H2 → Le W W2 → i < ds.length → Y i H2 x H3 → ∃ W3 d, Ext H2 W2 H3 W3 ∧ ds[i]? = some d ∧ RepD K W3 d x)
    (hDn : H Dn = none) (w : Wp (mCompL (wipeL r.s vs) st mt me ds r.st []) (fun q => ∀ H' W', RR K c σ H' W' ⟨r.s, q.2⟩ → Le W W' → Fresh K c H' W' (.lst q.1) Dn → Qd H') (XP K c E)) :
    ∃ Wt : Nat → Nat → Hp → Prop, (∃ m, Wt 0 m (upd H Dn (.lst []))) ∧ ∀ i m H, Wt i m H →
      (J.stop i H ∧ Qd H) ∨ (J.go i H ∧ ∃ Nx : Hp → Prop, (∀ H', Nx H' → ∃ m', m' < m ∧ Wt (i + 1) m' H') ∧ ∀ x H', J.yld i H x H' → g x (L2.wipe σ vs) H' fun σ2 H2 => L2.wipe σ2 vs = L2.wipe σ vs ∧ tt σ2 H2 fun b H3 =>
        if b = true then te σ2 H3 fun y H4 => ∃ acc, H4 Dn = some (.lst acc) ∧ acc.length < sizeLine ∧ Nx (upd H4 Dn (.lst (acc ++ [y]))) else Nx H3) := by
  have heD : c.He Dn = none := R1.heNone hDn
  have hbD : Dn ∉ W.b := fun z => R1.there z hDn
  have hlD : ∀ q ∈ c.lk, q.1 ≠ Dn := fun q hq z => by have := R1.lk q hq; rw [z, hDn] at this; cases this
  have hLD : ∀ {H2 : Hp} {W2 : Wd} {r2 : RE} {τ : L2.St}, RR K c τ H2 W2 r2 → True := fun _ => trivial
  refine lc_it wk (fun i H2 => ∃ W2 so acc av, RR K c (L2.wipe σ vs) H2 W2 ⟨wipeL r.s vs, so⟩ ∧ Le W W2 ∧ H2 Dn = some (.lst av) ∧ W2.g Dn = none ∧ Dn ∉ W2.b ∧ RepL K W2 acc av ∧
    Wp (mCompL (wipeL r.s vs) st mt me (ds.drop i) so acc) (fun q => ∀ H' W', RR K c σ H' W' ⟨r.s, q.2⟩ → Le W W' → Fresh K c H' W' (.lst q.1) Dn → Qd H') (XP K c E)) ?_ ?_ ?_ ?_
  · refine ⟨W, r.st, [], [], RR.other (R1.wipe vs) (R1.gh.no hDn) heD hbD hlD, Le.refl W, upd_same, R1.gh.no hDn, hbD, by simp only [RepL], ?_⟩
    rw [List.drop_zero]
    exact w
  · rintro i H2 hin ⟨W2, so, acc, av, R2, s2, _⟩
    exact hG _ H2 W2 _ R2 s2
  · rintro i x H2 H3 hlt ⟨W2, so, acc, av, R2, s2, hD, hGD, hbD2, hacc, q2⟩ y
    obtain ⟨W3, d, x3, e3, h3⟩ := hY i H2 W2 x H3 R2.gh s2 hlt y
    have R3 := R2.ext x3
    have hD3 : H3 Dn = some (.lst av) := x3.keep _ _ hD
    have hb3 : Dn ∉ W3.b := by rw [x3.bb]; exact hbD2
    have hGD3 : W3.g Dn = none := by
      cases q : W3.g Dn with
      | none => rfl
      | some u =>
        rcases x3.new Dn u q with z | z
        · exact absurd hGD z
        · rw [hD] at z; cases z
    have ed : ds.drop i = d :: ds.drop (i + 1) := by
      obtain ⟨hi', he⟩ := List.getElem?_eq_some_iff.mp e3
      rw [← he]
      exact List.drop_eq_getElem_cons hi'
    rw [ed] at q2
    simp only [mCompL] at q2
    cases e4 : st d ⟨wipeL r.s vs, so⟩ with
    | none => simp only [e4] at q2; exact q2.elim
    | some r3 =>
      simp only [e4] at q2
      have RE3 := R3.enter
      refine hgv x (L2.wipe σ vs) H3 (fun σ2 H' => H' = H3 ∧ RR K (nest c H3 W3) σ2 H3 W3 r3) _ (fun σ2 H' ⟨eH, R4⟩ eσ => ?_) (hg _ x d _ H3 W3 _ r3 _ RE3 h3 e4 fun σ2 R4 => ⟨rfl, R4⟩)
      subst eH
      have eσ' : L2.wipe σ2 vs = L2.wipe σ vs := eσ.trans (wipe_wipe vs σ)
      refine ⟨eσ', ?_⟩
      refine ht _ σ2 H' W3 r3 _ R4 ((Wp.bnd q2).mono (fun p2 q3 H4 W4 R5 s4 => ?_) fun x st hx => XP.nest R3 hx)
      have wipeBack : ∀ {H5 : Hp} {W5 : Wd} {r5 : RE}, RR K (nest c H' W3) σ2 H5 W5 r5 → RR K c (L2.wipe σ vs) H5 W5 ⟨wipeL r.s vs, r5.st⟩ ∧ H5 Dn = some (.lst av) ∧ W5.g Dn = none ∧ Dn ∉ W5.b := fun {H5 W5 r5} R6 => by
        have R7 := RR.leave R3 R6
        have R8 := RR.old R2 (x3.sub.trans R6.g0) R7
        obtain ⟨k3, _⟩ := R6.ke Dn _ hD3
        refine ⟨R8, (k3 hb3).2 hGD3, ?_, fun z => ?_⟩
        · cases q : W5.g Dn with
          | none => rfl
          | some u =>
            rcases R6.gr Dn u q with z | z
            · exact absurd hGD3 z
            · have z' : H' Dn = none := z
              rw [hD3] at z'; cases z'
        · rcases (R6.cg Dn z).2 with y | y
          · exact hb3 y
          · have y' : H' Dn = none := y
            rw [hD3] at y'; cases y'
      by_cases hb : p2.1 = true
      · rw [if_pos hb] at q3 ⊢
        refine he _ σ2 H4 W4 p2.2 _ R5 ((Wp.bnd q3).mono (fun p3 q4 v H5 W5 R6 s5 h5 => ?_) fun x st hx => XP.nest R3 hx)
        obtain ⟨R8, hD5, hG5, hB5⟩ := wipeBack R6
        by_cases hz : acc.length < 1000000
        · rw [if_pos hz] at q4
          refine ⟨av, hD5, lim_lt (by rw [← repL_len hacc]; exact hz), W5, p3.2.st, acc ++ [p3.1], av ++ [v], ?_, ((s2.trans x3.sub).trans s4).trans s5, upd_same, hG5, hB5, repL_app (hacc.mono ((x3.sub.trans s4).trans s5)) (repL_one h5), q4⟩
          exact RR.other R8 hG5 heD hB5 hlD
        · rw [if_neg hz] at q4; exact q4.elim
      · rw [if_neg hb] at q3 ⊢
        obtain ⟨R8, hD5, hG5, hB5⟩ := wipeBack R5
        exact ⟨W4, p2.2.st, acc, av, R8, (s2.trans x3.sub).trans s4, hD5, hG5, hB5, hacc.mono (x3.sub.trans s4), q3⟩
  · rintro H2 ⟨W2, so, acc, av, R2, s2, hD, hGD, hB, hacc, q2⟩
    rw [List.drop_length] at q2
    exact q2 H2 W2 (RR.old R1 s2 R2) s2 ⟨hGD, heD, hB, ⟨Dn, av, rfl, hD, hacc⟩⟩
theorem sndf_comp {wi : TI} {g : TG} {tt : TT} {te : TE} {vs : List Nat} {mi : RE → Out (List D × RE)} {st : D → RE → Option RE} {mt : RE → Out (Bool × RE)} {me : RE → Out (D × RE)}
    (hgv : GV g vs) (hi : SndI K E wi mi) (hg : GS K E g st) (ht : SndT K E tt mt) (he : Snd K E te me) : SndF K E (tLc wi g tt te vs) (mComp vs mi st mt me) := fun c σ H W r Q R w => by
  refine hi c σ H W r _ R ((Wp.bnd w).mono (fun p q J H1 W1 Gp Y R1 s1 wk hG hY => ?_) fun _ _ x => x)
  obtain ⟨ds, r1⟩ := p
  intro Dn hDn
  exact comp_core (Qd := fun H' => Q (.ref Dn) H') hgv hg ht he R1 wk hG hY hDn ((Wp.bnd q).mono (fun q2 h2 H' W' R' s' f => h2 Dn H' W' R' (s1.trans s') f) fun _ _ x => x)
end
end Mir
set_option maxHeartbeats 1000000
namespace Mir
open PySem PySem.Spec PyProof.Rows L2
section
variable {K : KW} {E : XK} {c : Fm} {σ σ' : L2.St} {H H' : Hp} {W W' : Wd} {r r' : RE}
/-! ## methods that change a cell -/
@[simp] def tyD : D → Option String
  | .lst _ => some "list"
  | .dic _ => some "dict"
  | _ => none
theorem tyD_ok {d : D} {v : V} {T : String} (e : tyD d = some T) (h : Own K H W d v) : tyV K T v H := by
  cases d <;> simp only [tyD, reduceCtorEq, Option.some.injEq] at e <;> subst e
  · obtain ⟨a, vs, ea, ha, _⟩ := h; subst ea; exact .inl ⟨rfl, vs, SqL.of ha⟩
  · obtain ⟨a, vs, ea, ha, _⟩ := h; subst ea; exact .inr (.inr (.inl ⟨rfl, .inl ⟨_, ha⟩⟩))
@[simp] def isLck : D → Bool
  | .lck _ => true
  | _ => false
theorem Own.nofrz {d : D} {a : Addr} (e : isLck d = false) (h : Own K H W d (.ref a)) : ∀ ob v, H a ≠ some (.frz ob v) := by
  intro ob v z
  unfold Own at h
  split at h
  · obtain ⟨b, us, eb, q, r⟩ := h; cases eb; rw [z] at q; cases q
  · obtain ⟨b, us, eb, q, r⟩ := h; cases eb; rw [z] at q; cases q
  · obtain ⟨b, us, eb, q, r⟩ := h; cases eb; rw [z] at q; cases q
  · obtain ⟨b, dx, us, eb, q, r⟩ := h; cases eb; rw [z] at q; cases q
  · cases e
  · cases e
  · cases e
  · exact h.elim
theorem tyD_nl {d : D} {T : String} (e : tyD d = some T) : isLck d = false := by
  cases d <;> first | rfl | cases e
def MutS (K : KW) (rr : V → List V → Hp → VK → Prop) (f : D → List D → Out (D × D)) : Prop := ∀ (a : Addr) (H : Hp) (W : Wd) (d res d' : D) (ds : List D) (vs : List V) (Q : VK), Sub W.g H → W.g a = none → Own K H W d (.ref a) → RepL K W ds vs → f d ds = .ok (res, d') →
  (∀ o v, Own K (upd H a o) W d' (.ref a) → RepD K W res v → Q v (upd H a o)) → rr (.ref a) vs H Q
@[simp] def mMut (me : RE → Out (D × RE)) (T : String) (f : D → List D → Out (D × D)) (ms : RE → Out (List D × RE)) : RE → Out (D × RE) := fun r => (me r).bnd fun x => match x.1 with
  | .cell i => match x.2.st[i]? with
    | some d0 => if tyD d0 = some T then (ms x.2).bnd fun p => match p.2.st[i]? with
        | some d => if tyD d = some T then (f d p.1).bnd fun y => .ok (y.1, ⟨p.2.s, p.2.st.set i y.2⟩) else .stuck
        | none => .stuck
      else .stuck
    | none => .stuck
  | _ => .stuck
def NoXM (f : D → List D → Out (D × D)) : Prop := ∀ a b x st, f a b ≠ .exc x st
theorem snd_mut {rr : V → List V → Hp → VK → Prop} {f : D → List D → Out (D × D)} {te : TE} {ta : TA} {me : RE → Out (D × RE)} {ms : RE → Out (List D × RE)} {T : String} (hm : MutS K rr f) (nx : NoXM f) (he : Snd K E te me) (h : SndA K E ta ms) : Snd K E (tBM K T rr te ta) (mMut me T f ms) := fun c σ H W r Q R w => by
  refine he c σ H W r _ R ((Wp.bnd w).mono (fun x w v H0 W0 R0 s0 h0 => ?_) fun _ _ x => x)
  obtain ⟨x, rx⟩ := x
  cases x <;> simp only at w <;> try exact w.elim
  rename_i i
  simp only [RepD] at h0
  obtain ⟨a, ha, rfl⟩ := h0
  split at w
  · rename_i d0 e0
    split at w
    · rename_i hT
      refine ⟨tyD_ok hT (R0.ce i d0 a e0 ha), ?_⟩
      refine h c σ H0 W0 rx _ R0 ((Wp.bnd w).mono (fun p q vs H1 W1 R1 s1 h1 => ?_) fun _ _ x => x)
      have ha1 := s1.p i a ha
      split at q
      · rename_i d e1
        split at q
        · rename_i hT1
          have ho := R1.ce i d a e1 ha1
          cases e : f d p.1 with
          | ok x =>
            rw [e] at q
            obtain ⟨res, d'⟩ := x
            refine hm a H1 W1 d res d' p.1 vs Q R1.gh (R1.cg a (List.mem_iff_getElem?.mpr ⟨i, ha1⟩)).1 ho h1 e fun o v own rep => ?_
            exact q v _ W1 (R1.mut e1 ha1 (ho.nofrz (tyD_nl hT1)) own) (s0.trans s1) rep
          | exc x st => exact absurd e (nx _ _ _ _)
          | stuck => rw [e] at q; exact q.elim
        · exact q.elim
      · exact q.elim
    · exact w.elim
  · exact w.elim
@[simp] def fAppend : D → List D → Out (D × D)
  | .lst xs, [d] => if xs.length < 1000000 then .ok (.non, .lst (xs ++ [d])) else .stuck
  | _, _ => .stuck
theorem mut_append : MutS K rAppend fAppend := fun a H W d res d' ds vs Q s ga ho hl e k => by
  cases d <;> simp only [fAppend, reduceCtorEq] at e
  match ds, hl, e with
  | [x], hl, e =>
    simp only at e
    split at e
    · rename_i hz
      cases e
      obtain ⟨a', us, ea, ha, la⟩ := ho
      cases ea
      simp only [RepL] at hl
      obtain ⟨v, _, rfl, hv, rfl⟩ := hl
      refine ⟨a, us, v, rfl, rfl, ha, lim_lt (by rw [← repL_len la]; exact hz), k _ .non ⟨a, _, rfl, upd_same, repL_app la (repL_one hv)⟩ repD_non⟩
    · cases e
theorem nx_append : NoXM fAppend := fun a b x st h => by
  unfold fAppend at h
  split at h
  · split at h <;> cases h
  · cases h
@[simp] def fPop : D → List D → Out (D × D)
  | .lst xs, [] => match xs.getLast? with
    | some d => .ok (d, .lst xs.dropLast)
    | none => .stuck
  | _, _ => .stuck
/-! ## displays -/
@[simp] def mLst (ms : RE → Out (List D × RE)) : RE → Out (D × RE) := fun r => (ms r).bnd fun p => if p.1.length ≤ 1000000 then .ok (.lst p.1, p.2) else .stuck
@[simp] def mTup (ms : RE → Out (List D × RE)) : RE → Out (D × RE) := fun r => (ms r).bnd fun p => if p.1.length ≤ 1000000 then .ok (.tup p.1, p.2) else .stuck
theorem sndf_lst {ta : TA} {ms : RE → Out (List D × RE)} (h : SndA K E ta ms) : SndF K E (tLst ta) (mLst ms) := fun c σ H W r Q R w => by
  refine h c σ H W r _ R ((Wp.bnd w).mono (fun p q vs H1 W1 R1 s1 h1 => ?_) fun _ _ x => x)
  · split at q
    · rename_i hz
      have rl := h1
      refine ⟨lim_le (by rw [← repL_len rl]; exact hz), fun a ha => ?_⟩
      obtain ⟨R2, f2⟩ := R1.fresh (o := .lst vs) (d := .lst p.1) ha ⟨a, vs, rfl, upd_same, rl⟩
      exact q a _ W1 R2 s1 f2
    · exact q.elim
theorem snd_tup {ta : TA} {ms : RE → Out (List D × RE)} (h : SndA K E ta ms) : Snd K E (tTup ta) (mTup ms) := fun c σ H W r Q R w => by
  refine h c σ H W r _ R ((Wp.bnd w).mono (fun p q vs H1 W1 R1 s1 h1 => ?_) fun _ _ x => x)
  · split at q
    · rename_i hz
      have rl := h1
      refine ⟨lim_le (by rw [← repL_len rl]; exact hz), fun a ha => ?_⟩
      have x := Ext.alloc (o := .tup vs) R1.gh ha
      refine q (.ref a) _ _ (R1.ext x) (s1.trans x.sub) ?_
      simp only [RepD]
      exact ⟨a, vs, rfl, upd_same, rl.mono x.sub⟩
    · exact q.elim
/-! ## slices -/
@[simp] def mNoP : RE → Out (Option Int × RE) := fun r => .ok (none, r)
@[simp] def mPart (m : RE → Out (D × RE)) : RE → Out (Option Int × RE) := fun r => (m r).bnd fun p => match p.1 with
  | .int i => .ok (some i, p.2)
  | _ => .stuck
def SndP (K : KW) (E : XK) (tp : TO) (m : RE → Out (Option Int × RE)) : Prop := ∀ (c : Fm) (σ : L2.St) (H : Hp) (W : Wd) (r : RE) (Q : Option Int → Hp → Prop), RR K c σ H W r →
  Wp (m r) (fun p => ∀ H' W', RR K c σ H' W' p.2 → Le W W' → Q p.1 H') (XP K c E) → tp σ H Q
theorem sndp_none : SndP K E tNoPart mNoP := fun c σ H W r Q R w => w H W R (Le.refl W)
theorem sndp_some {te : TE} {m : RE → Out (D × RE)} (h : Snd K E te m) : SndP K E (tPart te) (mPart m) := fun c σ H W r Q R w => by
  refine h c σ H W r _ R ((Wp.bnd w).mono (fun p q v H1 W1 R1 s1 h1 => ?_) fun _ _ x => x)
  obtain ⟨d, r'⟩ := p
  cases d <;> simp only at q <;> try exact q.elim
  simp only [RepD] at h1
  exact ⟨_, h1, q H1 W1 R1 s1⟩
def cutD (xs : List D) (lo hi : Option Int) : List D := (xs.drop (HT.sIx xs.length 0 lo)).take (HT.sIx xs.length xs.length hi - HT.sIx xs.length 0 lo)
theorem repL_drop : ∀ {ds : List D} {vs : List V} (n : Nat), RepL K W ds vs → RepL K W (ds.drop n) (vs.drop n)
  | _, _, 0, h => h
  | [], vs, n + 1, h => by simp only [RepL] at h; subst h; simp only [List.drop_nil, RepL]
  | d :: ds, vs, n + 1, h => by
    simp only [RepL] at h
    obtain ⟨v, us, e, _, t⟩ := h
    subst e
    exact repL_drop n t
theorem repL_take : ∀ {ds : List D} {vs : List V} (n : Nat), RepL K W ds vs → RepL K W (ds.take n) (vs.take n)
  | _, _, 0, h => by simp only [List.take_zero, RepL]
  | [], vs, n + 1, h => by simp only [RepL] at h; subst h; simp only [List.take_nil, RepL]
  | d :: ds, vs, n + 1, h => by
    simp only [RepL] at h
    obtain ⟨v, us, e, q, t⟩ := h
    subst e
    show RepL K W (d :: ds.take n) (v :: us.take n)
    simp only [RepL]
    exact ⟨v, _, rfl, q, repL_take n t⟩
theorem repL_cut {ds : List D} {vs : List V} (lo hi : Option Int) (h : RepL K W ds vs) : RepL K W (cutD ds lo hi) (cutV vs lo hi) := by
  unfold cutD cutV
  rw [repL_len h]
  exact repL_take _ (repL_drop _ h)
theorem cutD_whole {xs : List D} {lo hi : Option Int} (h : HT.sIx xs.length 0 lo = 0 ∧ HT.sIx xs.length xs.length hi = xs.length) : cutD xs lo hi = xs := by
  unfold cutD
  rw [h.1, h.2]
  simp
@[simp] def dCut : D → Option Int → Option Int → Out D
  | .lst xs, lo, hi => .ok (.lst (cutD xs lo hi))
  | .frl xs, lo, hi => .ok (.lst (cutD xs lo hi))
  | _, _, _ => .stuck
@[simp] def dCutS : D → Option Int → Option Int → Out D
  | .str z, lo, hi => if z.length ≤ 1000000 then .ok (.str (L2.cutS z lo hi)) else .stuck
  | .tup xs, lo, hi => .ok (.tup (cutD xs lo hi))
  | _, _, _ => .stuck
@[simp] def mCut (f : D → Option Int → Option Int → Out D) (m : RE → Out (D × RE)) (ml mh : RE → Out (Option Int × RE)) : RE → Out (D × RE) := fun r => (m r).bnd fun p => (ml p.2).bnd fun l => (mh l.2).bnd fun h => match dr h.2.st p.1 with
  | some d => (f d l.1 h.1).bnd fun x => .ok (x, h.2)
  | none => .stuck
theorem sndf_cut {te : TE} {tl th : TO} {m : RE → Out (D × RE)} {ml mh : RE → Out (Option Int × RE)} (h : Snd K E te m) (hl : SndP K E tl ml) (hh : SndP K E th mh) : SndF K E (tSl (rSlL K) te tl th) (mCut dCut m ml mh) := fun c σ H W r Q R w => by
  refine h c σ H W r _ R ((Wp.bnd w).mono (fun p q v H1 W1 R1 s1 h1 => ?_) fun _ _ x => x)
  refine hl c σ H1 W1 p.2 _ R1 ((Wp.bnd q).mono (fun l q H2 W2 R2 s2 => ?_) fun _ _ x => x)
  refine hh c σ H2 W2 l.2 _ R2 ((Wp.bnd q).mono (fun u q H3 W3 R3 s3 => ?_) fun _ _ x => x)
  cases e : dr u.2.st p.1 with
  | none => simp only [e] at q; exact q.elim
  | some d =>
    simp only [e] at q
    have ht := (h1.mono (s2.trans s3)).at R3 e
    have s : Le W W3 := (s1.trans s2).trans s3
    have fin : ∀ (a : Addr) (xs : List D) (vs : List V), RepL K W3 xs vs → Wp (Out.ok (D.lst (cutD xs l.1 u.1), u.2)) (fun p => ∀ a H' W', RR K c σ H' W' p.2 → Le W W' → Fresh K c H' W' p.1 a → Q (.ref a) H') (XP K c E) → H3 a = none → Q (.ref a) (upd H3 a (.lst (cutV vs l.1 u.1))) := fun a xs vs rl q ha => by
      obtain ⟨R4, f4⟩ := R3.fresh (o := .lst (cutV vs l.1 u.1)) (d := .lst (cutD xs l.1 u.1)) ha ⟨a, _, rfl, upd_same, repL_cut _ _ rl⟩
      exact q a _ W3 R4 s f4
    cases d <;> simp only [dCut, bnd_ok, bnd_stuck] at q <;> try exact q.elim
    · obtain ⟨a, vs, ea, ha, rl⟩ := ht
      exact ⟨a, vs, ea, SqL.of ha, fun b hb => fin b _ _ rl q hb⟩
    · obtain ⟨a, vs, ea, ha, rl⟩ := ht
      exact ⟨a, vs, ea, ha, fun b hb => fin b _ _ rl q hb⟩
abbrev rSlB (K : PySem.W.Frag) : V → Option Int → Option Int → Hp → VK → Prop := fun x lo hi H Q => rSlS x lo hi H Q ∨ L2.rSlA K x lo hi H Q
theorem SlR.or {X : Cx} {r r' : V → Option Int → Option Int → Hp → VK → Prop} (h : SlR X r) (h' : SlR X r') : SlR X (fun x lo hi H Q => r x lo hi H Q ∨ r' x lo hi H Q) := fun pins s σ H x v vl vu lo hi sl Q I rx hs pl pu hq => by
  rcases hq with q | q
  · exact h pins s σ H x v vl vu lo hi sl Q I rx hs pl pu q
  · exact h' pins s σ H x v vl vu lo hi sl Q I rx hs pl pu q
theorem snd_cutS {te : TE} {tl th : TO} {m : RE → Out (D × RE)} {ml mh : RE → Out (Option Int × RE)} (h : Snd K E te m) (hl : SndP K E tl ml) (hh : SndP K E th mh) : Snd K E (tSl (rSlB K) te tl th) (mCut dCutS m ml mh) := fun c σ H W r Q R w => by
  refine h c σ H W r _ R ((Wp.bnd w).mono (fun p q v H1 W1 R1 s1 h1 => ?_) fun _ _ x => x)
  refine hl c σ H1 W1 p.2 _ R1 ((Wp.bnd q).mono (fun l q H2 W2 R2 s2 => ?_) fun _ _ x => x)
  refine hh c σ H2 W2 l.2 _ R2 ((Wp.bnd q).mono (fun u q H3 W3 R3 s3 => ?_) fun _ _ x => x)
  cases e : dr u.2.st p.1 with
  | none => simp only [e] at q; exact q.elim
  | some d =>
    simp only [e] at q
    have ht := (h1.mono (s2.trans s3)).at R3 e
    have s : Le W W3 := (s1.trans s2).trans s3
    cases d <;> simp only [dCutS, bnd_stuck] at q <;> try exact q.elim
    · split at q
      · rename_i hz
        exact .inl ⟨_, repT_str ht, lim_le hz, q _ H3 W3 R3 s repD_str⟩
      · exact q.elim
    · have ht0 := ht
      obtain ⟨a, vs, ea, ha, rl⟩ := ht
      refine .inr ⟨a, vs, ea, SqT.of (R3.gh.tup ha), fun hz => ?_, fun hz b hb => ?_⟩
      · rw [← ea]
        refine q v H3 W3 R3 s ?_
        have : cutD _ l.1 u.1 = _ := cutD_whole (by rw [repL_len rl]; exact hz)
        rw [this]
        exact repT_tup ht0
      · have x := Ext.alloc (o := .tup (cutV vs l.1 u.1)) R3.gh hb
        refine q (.ref b) _ _ (R3.ext x) (s.trans x.sub) ?_
        simp only [RepD]
        exact ⟨b, _, rfl, upd_same, (repL_cut _ _ rl).mono x.sub⟩
/-! ## join -/
@[simp] def strsD : List D → Option (List Str)
  | [] => some []
  | .str x :: ds => (strsD ds).map (x :: ·)
  | _ :: _ => none
theorem strsD_rep : ∀ {ds : List D} {ys : List Str} {vs : List V}, strsD ds = some ys → RepL K W ds vs → vs = ys.map V.str
  | [], _, _, e, h => by cases e; simp only [RepL] at h; subst h; rfl
  | d :: ds, ys, vs, e, h => by
    cases d <;> simp only [strsD, reduceCtorEq] at e
    cases q : strsD ds with
    | none => rw [q] at e; cases e
    | some zs =>
      rw [q] at e; cases e
      simp only [RepL, RepD] at h
      obtain ⟨v, us, ev, hv, t⟩ := h
      rw [ev, hv, strsD_rep q t]
      rfl
@[simp] def dJoin (a : Str) : D → Out D
  | .lst ds => match strsD ds with
    | some ys => if (ys.map (·.length)).sum + ys.length * a.length ≤ 1000000 then .ok (.str (Str.join a ys)) else .stuck
    | none => .stuck
  | _ => .stuck
theorem nx_join {a : Str} : NoX1 (dJoin a) := fun b x st h => by
  cases b <;> simp only [dJoin, reduceCtorEq] at h
  split at h
  · split at h <;> cases h
  · cases h
theorem snd_join {a : Str} {te : TE} {mb : RE → Out (D × RE)} (hb : Snd K E te mb) : Snd K E (tM1 (fun x xs H Q => ∃ a p, ∃ ys : List Str, x = .str a ∧ xs = [.ref p] ∧ (SqL K H p (ys.map V.str) ∨ SqT K H p (ys.map V.str)) ∧
      (ys.map (·.length)).sum + ys.length * a.length ≤ 16777216 ∧ Q (.str (Txt.join a ys)) H) (tC (.str a)) te) (mOp1 (dJoin a) mb) := fun c σ H W r Q R w => by
  refine ⟨⟨a, rfl⟩, ?_⟩
  refine hb c σ H W r _ R ((Wp.bnd w).mono (fun p2 q2 v2 H2 W2 R2 s2 h2 => ?_) fun _ _ x => x)
  cases e2 : dr p2.2.st p2.1 with
  | none => simp only [e2] at q2; exact q2.elim
  | some dy =>
    simp only [e2] at q2
    obtain ⟨d, hd, q3⟩ := wp_f1 nx_join q2
    have ht := h2.at R2 e2
    cases dy <;> simp only [dJoin, reduceCtorEq] at hd
    split at hd
    · rename_i ys hy
      split at hd
      · rename_i hz
        cases hd
        obtain ⟨b, vs, eb, hb', rl⟩ := ht
        have hv := strsD_rep hy rl
        subst hv
        exact ⟨a, b, ys, rfl, by rw [eb], .inl (SqL.of hb'), Nat.le_trans hz (by decide), by rw [TL.join_eq]; exact q3 _ H2 W2 R2 s2 repD_str⟩
      · cases hd
    · cases hd
end
end Mir
set_option maxHeartbeats 1000000
namespace Mir
open PySem PySem.Spec PyProof.Rows L2
/-! ## the rules, by syntax -/
section
variable {X : Cx} {E : XK} {a b c e : PySem.Expr} {es : List PySem.Expr} {pos p : Pos} {x : Str}
variable {ma mb m oa ob oc : RE → Out (D × RE)} {mt mu : RE → Out (Bool × RE)} {as_ : RE → Out (List D × RE)} {ms mz : RE → Out Fl}
/-! names and constants -/
theorem em_var (i : Nat) (hN : X.N[i]? = some x := by rfl) (hv : Vis X.env.scope x := by first | exact Or.inl rfl | exact Or.inr (Or.inl rfl) | exact Or.inr (Or.inr rfl)) (hd : (x == ("__debug__" : Str)) = false := by decide)
    (hcd : (x == ("__classdict__" : Str)) = false := by decide) : EM X E (.Name x pos) (mVar i) := ⟨_, pe_var hN hv hd hcd, snd_var⟩
/-- what is new is no locked thing -/
def NL (m : RE → Out (D × RE)) : Prop := ∀ r d r', m r = .ok (d, r') → isLck d = false
theorem unlck_nl {d : D} (h : isLck d = false) : unlck d = d := by
  cases d <;> first | rfl | cases h
/-- frozen -/
theorem ef (h : FM X E e m) (hu : NL m) : EM X E e m := let ⟨_, h1, h2⟩ := h; ⟨_, h1, snd_of_f h2 fun r d r' q => unlck_nl (hu r d r' q)⟩
/-- as a cell -/
theorem ecl (h : FM X E e m) : EM X E e (mCell m) := let ⟨_, h1, h2⟩ := h; ⟨_, h1, snd_cell h2⟩
theorem nl_bnd {α : Type} {m : RE → Out α} {g : α → Out (D × RE)} (h : ∀ a d r', g a = .ok (d, r') → isLck d = false) : NL (fun r => (m r).bnd g) := fun r d r' e => by
  have e' : (m r).bnd g = .ok (d, r') := e
  cases q : m r with
  | ok a => rw [q] at e'; exact h a d r' e'
  | exc x st => rw [q] at e'; cases e'
  | stuck => rw [q] at e'; cases e'
theorem nl_lst {ms : RE → Out (List D × RE)} : NL (mLst ms) := nl_bnd fun a d r' e => by
  split at e
  · cases e; rfl
  · cases e
theorem nl_args {f : List D → Out D} {ms : RE → Out (List D × RE)} (h : ∀ ds d, f ds = .ok d → isLck d = false) : NL (mArgs f ms) := nl_bnd fun a d r' e => by
  split at e
  · rename_i ds q
    cases q2 : f ds with
    | ok d2 => rw [q2] at e; cases e; exact h ds _ q2
    | exc x st => rw [q2] at e; cases e
    | stuck => rw [q2] at e; cases e
  · cases e
theorem nl_cut {m : RE → Out (D × RE)} {ml mh : RE → Out (Option Int × RE)} : NL (mCut dCut m ml mh) := fun r d r' e => by
  unfold mCut at e
  cases h1 : m r with
  | ok a =>
    rw [h1, bnd_ok] at e
    cases h2 : ml a.2 with
    | ok b =>
      rw [h2, bnd_ok] at e
      cases h3 : mh b.2 with
      | ok c =>
        rw [h3, bnd_ok] at e
        split at e
        · rename_i d0 q
          cases d0 <;> simp only [dCut, bnd_ok, bnd_stuck, reduceCtorEq] at e <;> (cases e; rfl)
        · cases e
      | exc x st => rw [h3] at e; cases e
      | stuck => rw [h3] at e; cases e
    | exc x st => rw [h2] at e; cases e
    | stuck => rw [h2] at e; cases e
  | exc x st => rw [h1] at e; cases e
  | stuck => rw [h1] at e; cases e
theorem nl_comp {vs : List Nat} {mi : RE → Out (List D × RE)} {st : D → RE → Option RE} {mt : RE → Out (Bool × RE)} {me : RE → Out (D × RE)} : NL (mComp vs mi st mt me) := nl_bnd fun a d r' e => by
  cases q : mCompL (wipeL a.2.s vs) st mt me a.1 a.2.st [] with
  | ok b => rw [q] at e; cases e; rfl
  | exc x st => rw [q] at e; cases e
  | stuck => rw [q] at e; cases e
theorem em_int {i : Int} {j : Nat} : EM X E (.Constant (.int i) j pos) (mC (.int i)) := ⟨_, pe_int, snd_c fun _ => repD_int⟩
theorem em_bl {i : Bool} {j : Nat} : EM X E (.Constant (.bool i) j pos) (mC (.bl i)) := ⟨_, pe_bl, snd_c fun _ => repD_bl⟩
theorem em_non {j : Nat} : EM X E (.Constant .none j pos) (mC .non) := ⟨_, pe_non, snd_c fun _ => repD_non⟩
theorem em_str {i : Str} {j : Nat} : EM X E (.Constant (.str i) j pos) (mC (.str i)) := ⟨_, pe_str, snd_c fun _ => repD_str⟩
theorem em_gint {i : Int} (hm : ∃ t, X.mg x = some (.int i t)) (hg : Gl X x := by rfl) (hd : (x == ("__debug__" : Str)) = false := by decide) : EM X E (.Name x pos) (mC (.int i)) := let ⟨_, hm⟩ := hm; ⟨_, pe_glob (v := .int i) hg hm ⟨_, rfl⟩ hd, snd_c fun _ => repD_int⟩
theorem em_gstr {i : Str} (hm : ∃ t, X.mg x = some (.str i t)) (hg : Gl X x := by rfl) (hd : (x == ("__debug__" : Str)) = false := by decide) : EM X E (.Name x pos) (mC (.str i)) := let ⟨_, hm⟩ := hm; ⟨_, pe_glob (v := .str i) hg hm ⟨_, rfl⟩ hd, snd_c fun _ => repD_str⟩
/-- a built-in class as a value -/
theorem em_ty {n : String} (hm : X.mg x = none) (hv : bootBuiltins x = some (.type n)) (hg : Gl X x := by rfl) (hn : x ≠ "__name__" := by decide) (hd : (x == ("__debug__" : Str)) = false := by decide) : EM X E (.Name x pos) (mC (.ty n)) :=
  ⟨_, pe_bltn (v := .ty n) hg hm hv rfl hn hd, snd_c fun _ => by simp only [RepD]⟩
/-! operators -/
theorem em_op {op : Operator} {rr : R2} {f : D → D → Out D} (hr : OpR X (binaryOp op) rr) (hs : OpS X.kw rr f) (nx : NoX2 f) (ha : EM X E a oa) (hb : EM X E b ob) : EM X E (.BinOp a op b pos) (mOp2 f oa ob) :=
  let ⟨_, h1, h2⟩ := ha; let ⟨_, h3, h4⟩ := hb; ⟨_, pe_op hr h1 h3, snd_op2 hs nx h2 h4⟩
theorem em_add (ha : EM X E a oa) (hb : EM X E b ob) : EM X E (.BinOp a .Add b pos) (mOp2 dAdd oa ob) := em_op (OpR.or op_add (OpR.or op_add_str (OpR.or op_cat op_catA))) ops_add nx_add ha hb
theorem em_mul (ha : EM X E a oa) (hb : EM X E b ob) : EM X E (.BinOp a .Mult b pos) (mOp2 dMul oa ob) := em_op (OpR.or op_mul op_rep) ops_mul nx_mul ha hb
theorem em_mod (ha : EM X E a oa) (hb : EM X E b ob) : EM X E (.BinOp a .Mod b pos) (mOp2 dMod oa ob) := em_op op_mod ops_mod nx_mod ha hb
theorem em_div (ha : EM X E a oa) (hb : EM X E b ob) : EM X E (.BinOp a .FloorDiv b pos) (mOp2 dDiv oa ob) := em_op op_fdiv ops_div nx_div ha hb
theorem em_pow (ha : EM X E a oa) (hb : EM X E b ob) : EM X E (.BinOp a .Pow b pos) (mOp2 dPow oa ob) := em_op op_pow ops_pow nx_pow ha hb
theorem em_cmp {op : CmpOp} {rr : R2} {f : D → D → Out D} (hr : OpR X (compareOp op) rr) (hs : OpS X.kw rr f) (nx : NoX2 f) (ha : EM X E a oa) (hb : EM X E b ob) (hm : behindInMarks op b = false) : EM X E (.Compare a [op] [b] pos) (mOp2 f oa ob) :=
  let ⟨_, h1, h2⟩ := ha; let ⟨_, h3, h4⟩ := hb; ⟨_, pe_cmpR hr h1 h3 hm, snd_op2 hs nx h2 h4⟩
theorem tm_cmp {op : CmpOp} {rr : R2} {f : D → D → Out D} (hr : OpR X (compareOp op) rr) (hs : OpS X.kw rr f) (nx : NoX2 f) (ha : EM X E a oa) (hb : EM X E b ob) (hm : behindInMarks op b = false) : TM X E (.Compare a [op] [b] pos) (mBool (mOp2 f oa ob)) :=
  let ⟨_, h1, h2⟩ := ha; let ⟨_, h3, h4⟩ := hb; ⟨_, pt_cmpR hr h1 h3 hm, snd_test (snd_op2 hs nx h2 h4)⟩
/-- which comparison: its rule, what it does -/
structure CmpK (X : Cx) (op : CmpOp) (f : D → D → Out D) : Prop where
  ex : ∃ rr, OpR X (compareOp op) rr ∧ OpS X.kw rr f
  nx : NoX2 f
theorem k_lt : CmpK X .Lt dLt := ⟨⟨_, OpR.or op_lt op_lt_str, ops_lt⟩, nx_lt⟩
theorem k_le : CmpK X .LtE dLe := ⟨⟨_, op_le, ops_le⟩, nx_le⟩
theorem k_gt : CmpK X .Gt dGt := ⟨⟨_, op_gt, ops_gt⟩, nx_gt⟩
theorem k_ge : CmpK X .GtE dGe := ⟨⟨_, op_ge, ops_ge⟩, nx_ge⟩
theorem k_isN : CmpK X .Is dIs := ⟨⟨_, op_isN, ops_is⟩, nx_is⟩
theorem k_notN : CmpK X .IsNot dIsNot := ⟨⟨_, op_notN, ops_isNot⟩, nx_isNot⟩
theorem ec {op : CmpOp} {f : D → D → Out D} (k : CmpK X op f) (ha : EM X E a oa) (hb : EM X E b ob) (hm : behindInMarks op b = false := by first | exact nomark _ | rfl) : EM X E (.Compare a [op] [b] pos) (mOp2 f oa ob) := let ⟨_, h1, h2⟩ := k.ex; em_cmp h1 h2 k.nx ha hb hm
theorem tc {op : CmpOp} {f : D → D → Out D} (k : CmpK X op f) (ha : EM X E a oa) (hb : EM X E b ob) (hm : behindInMarks op b = false := by first | exact nomark _ | rfl) : TM X E (.Compare a [op] [b] pos) (mBool (mOp2 f oa ob)) := let ⟨_, h1, h2⟩ := k.ex; tm_cmp h1 h2 k.nx ha hb hm
/-- a <= b <= c -/
@[simp] def mChain (f g : D → D → Out D) (ma mb mc : RE → Out (D × RE)) : RE → Out (D × RE) := fun r => (ma r).bnd fun x => (mb x.2).bnd fun y => match dr y.2.st x.1, dr y.2.st y.1 with
  | some dx, some dy => (f dx dy).bnd fun d => (asB d).bnd fun k => if k = true then (mc y.2).bnd fun z => match dr z.2.st y.1, dr z.2.st z.1 with
      | some dy', some dz => (g dy' dz).bnd fun d => .ok (d, z.2)
      | _, _ => .stuck
    else .ok (.bl false, y.2)
  | _, _ => .stuck
theorem snd_chain {K : KW} {rr rr' : R2} {f g : D → D → Out D} {ta tb tc : TE} (hs : OpS K rr f) (nx : NoX2 f) (hs' : OpS K rr' g) (nx' : NoX2 g) (ha : Snd K E ta oa) (hb : Snd K E tb ob) (hc : Snd K E tc oc) : Snd K E (tChain rr rr' ta tb tc) (mChain f g oa ob oc) := fun c σ H W r Q R w => by
  refine ha c σ H W r _ R ((Wp.bnd w).mono (fun p q v1 H1 W1 R1 s1 h1 => ?_) fun _ _ x => x)
  refine hb c σ H1 W1 p.2 _ R1 ((Wp.bnd q).mono (fun p2 q2 v2 H2 W2 R2 s2 h2 => ?_) fun _ _ x => x)
  cases e1 : dr p2.2.st p.1 with
  | none => simp only [e1] at q2; exact q2.elim
  | some dx =>
    cases e2 : dr p2.2.st p2.1 with
    | none => simp only [e1, e2] at q2; exact q2.elim
    | some dy =>
      simp only [e1, e2] at q2
      cases e3 : f dx dy with
      | exc x st => exact absurd e3 (nx _ _ _ _)
      | stuck => rw [e3] at q2; exact q2.elim
      | ok d =>
        rw [e3, bnd_ok] at q2
        refine hs v1 v2 H2 W2 dx dy _ R2.gh ((h1.mono s2).at R2 e1) (h2.at R2 e2) d e3 fun v H3 W3 x3 rep => ?_
        cases d <;> simp only [asB, bnd_ok, bnd_stuck] at q2 <;> try exact q2.elim
        rename_i k
        simp only [RepD] at rep
        refine ⟨k, rep, ?_⟩
        have R3 := R2.ext x3
        by_cases hk : k = true
        · rw [if_pos hk] at q2 ⊢
          refine hc c σ H3 W3 p2.2 _ R3 ((Wp.bnd q2).mono (fun p4 q4 v4 H4 W4 R4 s4 h4 => ?_) fun _ _ x => x)
          cases e5 : dr p4.2.st p2.1 with
          | none => simp only [e5] at q4; exact q4.elim
          | some dy' =>
            cases e6 : dr p4.2.st p4.1 with
            | none => simp only [e5, e6] at q4; exact q4.elim
            | some dz =>
              simp only [e5, e6] at q4
              obtain ⟨d', hd', q5⟩ := wp_f2 nx' q4
              exact hs' v2 v4 H4 W4 dy' dz Q R4.gh ((h2.mono (x3.sub.trans s4)).at R4 e5) (h4.at R4 e6) d' hd' fun v H' W' x rep => q5 v H' W' (R4.ext x) ((((s1.trans s2).trans x3.sub).trans s4).trans x.sub) rep
        · rw [if_neg hk] at q2 ⊢
          exact q2 _ H3 W3 R3 ((s1.trans s2).trans x3.sub) repD_bl
theorem tch {op op' : CmpOp} {f g : D → D → Out D} (k : CmpK X op f) (k' : CmpK X op' g) (ha : EM X E a oa) (hb : EM X E b ob) (hc : EM X E c oc) (hm : lastMarks [op, op'] [b, c] = false := by with_unfolding_all rfl) : TM X E (.Compare a [op, op'] [b, c] pos) (mBool (mChain f g oa ob oc)) :=
  let ⟨_, h1, h2⟩ := ha; let ⟨_, h3, h4⟩ := hb; let ⟨_, h5, h6⟩ := hc; let ⟨_, r1, r2⟩ := k.ex; let ⟨_, r3, r4⟩ := k'.ex
  ⟨_, pt_chain r1 r3 h1 h3 h5 hm, snd_test (snd_chain r2 k.nx r4 k'.nx h2 h4 h6)⟩
theorem em_neg (ha : EM X E a oa) : EM X E (.UnaryOp .USub a pos) (mOp1 dNeg oa) := let ⟨_, h1, h2⟩ := ha; ⟨_, pe_un un_neg h1, fun c σ H W r Q R w => by
  refine h2 c σ H W r _ R ((Wp.bnd w).mono (fun p q v H1 W1 R1 s1 r1 => ?_) fun _ _ x => x)
  cases e : dr p.2.st p.1 with
  | none => simp only [e] at q; exact q.elim
  | some d =>
    simp only [e] at q
    have ht := r1.at R1 e
    cases d <;> simp only [dNeg, bnd_ok, bnd_stuck] at q <;> try exact q.elim
    exact ⟨_, repT_int ht, q _ H1 W1 R1 s1 repD_int⟩⟩
/-! and, or, not -/
theorem em_one {op : BoolOp} (h : EM X E a ma) : EM X E (.BoolOp op [a] pos) ma := let ⟨_, h1, h2⟩ := h; ⟨_, pe_one h1, h2⟩
theorem em_and {rest : List PySem.Expr} (h : EM X E a ma) (k : EM X E (.BoolOp .And (b :: rest) pos) mb) : EM X E (.BoolOp .And (a :: b :: rest) pos) (mAnd ma mb) := let ⟨_, h1, h2⟩ := h; let ⟨_, k1, k2⟩ := k; ⟨_, pe_and h1 k1, snd_and h2 k2⟩
theorem em_not (h : EM X E a ma) : EM X E (.UnaryOp .Not a pos) (mNot ma) := let ⟨_, h1, h2⟩ := h; ⟨_, pe_not h1, snd_not h2⟩
/-! tests -/
theorem tm_v (h : EM X E a oa) (he : ∀ whole, isTrue a X.env whole = (do let v ← whole; standAt a.pos; holding [v] (truthy v)) := by intro _; rfl) : TM X E a (mTruth oa) := let ⟨_, h1, h2⟩ := h; ⟨_, pt_truth h1 he, snd_truth h2⟩
theorem tm_not (h : TM X E a mt) : TM X E (.UnaryOp .Not a pos) (mTNot mt) := let ⟨_, h1, h2⟩ := h; ⟨_, pt_not h1, snd_tnot h2⟩
theorem tw (h : WM X E a mt) : TM X E a mt := let ⟨_, h1, h2⟩ := h; ⟨_, PW.pt h1, h2⟩
theorem wm_and1 (h : TM X E a mt) : WM X E (.BoolOp .And [a] pos) mt := let ⟨_, h1, h2⟩ := h; ⟨_, pw_and1 h1, h2⟩
theorem wm_or1 (h : TM X E a mt) : WM X E (.BoolOp .Or [a] pos) mt := let ⟨_, h1, h2⟩ := h; ⟨_, pw_or1 h1, h2⟩
theorem wm_and {rest : List PySem.Expr} (h : TM X E a mt) (k : WM X E (.BoolOp .And (b :: rest) pos) mu) : WM X E (.BoolOp .And (a :: b :: rest) pos) (mTAnd mt mu) := let ⟨_, h1, h2⟩ := h; let ⟨_, k1, k2⟩ := k; ⟨_, pw_and h1 k1, snd_tand h2 k2⟩
theorem wm_or {rest : List PySem.Expr} (h : TM X E a mt) (k : WM X E (.BoolOp .Or (b :: rest) pos) mu) : WM X E (.BoolOp .Or (a :: b :: rest) pos) (mTOr mt mu) := let ⟨_, h1, h2⟩ := h; let ⟨_, k1, k2⟩ := k; ⟨_, pw_or h1 k1, snd_tor h2 k2⟩
/-! arguments, calls -/
theorem am_nil : AM X E [] mNil := ⟨_, pa_nil, snd_nil⟩
theorem am_cons (h : EM X E e oa) (k : AM X E es as_) (hs : starEach (e :: es) X.env = (false, eval e X.env) :: starEach es X.env := by rfl) : AM X E (e :: es) (mCons oa as_) := let ⟨_, h1, h2⟩ := h; let ⟨_, k1, k2⟩ := k; ⟨_, pa_cons h1 k1 hs, snd_cons h2 k2⟩
/-- a built-in function -/
theorem em_cb {id : String} {rr : List V → Hp → VK → Prop} {f : List D → Out D} (hr : CallR X (.builtin id) rr) (hs : CallS X.kw rr f) (nx : NoX1 f) (hm : X.mg x = none) (hv : bootBuiltins x = some (.builtin id)) (h : AM X E (e :: es) as_) (hg : Gl X x := by rfl) (hn : x ≠ "__name__" := by decide) (hdb : (x == ("__debug__" : Str)) = false := by decide)
    (he : starEach (e :: es) X.env = (false, eval e X.env) :: starEach es X.env := by rfl) (hpl : (backTo pos (starEach es X.env)).any (·.1) = false := by rfl) : EM X E (.Call (.Name x p) (e :: es) [] pos) (mArgs f as_) :=
  let ⟨_, h1, h2⟩ := h; ⟨_, pe_callB hr hg hm hv h1 hn hdb he hpl, snd_cb hs nx h2⟩
theorem em_ct {T : String} {rr : List V → Hp → VK → Prop} {f : List D → Out D} (hr : CallR X (.type T) rr) (hs : CallS X.kw rr f) (nx : NoX1 f) (hm : X.mg x = none) (hv : bootBuiltins x = some (.type T)) (h : AM X E (e :: es) as_) (hg : Gl X x := by rfl) (hn : x ≠ "__name__" := by decide) (hdb : (x == ("__debug__" : Str)) = false := by decide)
    (he : starEach (e :: es) X.env = (false, eval e X.env) :: starEach es X.env := by rfl) (hpl : (backTo pos (starEach es X.env)).any (·.1) = false := by rfl) : EM X E (.Call (.Name x p) (e :: es) [] pos) (mArgs f as_) :=
  let ⟨_, h1, h2⟩ := h; ⟨_, pe_callTy hr hg hm hv h1 hn hdb he hpl, snd_cb hs nx h2⟩
theorem fm_ct {T : String} {rr : List V → Hp → VK → Prop} {f : List D → Out D} (hr : CallR X (.type T) rr) (hs : CallF X.kw rr f) (nx : NoX1 f) (hm : X.mg x = none) (hv : bootBuiltins x = some (.type T)) (h : AM X E (e :: es) as_) (hg : Gl X x := by rfl) (hn : x ≠ "__name__" := by decide) (hdb : (x == ("__debug__" : Str)) = false := by decide)
    (he : starEach (e :: es) X.env = (false, eval e X.env) :: starEach es X.env := by rfl) (hpl : (backTo pos (starEach es X.env)).any (·.1) = false := by rfl) : FM X E (.Call (.Name x p) (e :: es) [] pos) (mArgs f as_) :=
  let ⟨_, h1, h2⟩ := h; ⟨_, pe_callTy hr hg hm hv h1 hn hdb he hpl, sndf_cb hs nx h2⟩
theorem fm_cb {id : String} {rr : List V → Hp → VK → Prop} {f : List D → Out D} (hr : CallR X (.builtin id) rr) (hs : CallF X.kw rr f) (nx : NoX1 f) (hm : X.mg x = none) (hv : bootBuiltins x = some (.builtin id)) (h : AM X E (e :: es) as_) (hg : Gl X x := by rfl) (hn : x ≠ "__name__" := by decide) (hdb : (x == ("__debug__" : Str)) = false := by decide)
    (he : starEach (e :: es) X.env = (false, eval e X.env) :: starEach es X.env := by rfl) (hpl : (backTo pos (starEach es X.env)).any (·.1) = false := by rfl) : FM X E (.Call (.Name x p) (e :: es) [] pos) (mArgs f as_) :=
  let ⟨_, h1, h2⟩ := h; ⟨_, pe_callB hr hg hm hv h1 hn hdb he hpl, sndf_cb hs nx h2⟩
/-- a def of the text -/
theorem em_call {CXx : CXT} {k n : Nat} {f : Addr} {fd : FuncData} {ps : List Str} {mf : Fn} {dd : List D} {dvs : List V} {ds : List Value} (F : FnOk X.prog X.w X.K X.mg X.base CXx k f fd ps (spP X.kw n mf)) (hn : ∀ ds st, mf ds st ≠ .stuck → ds.length = n) (hr : Room k X.A) (hm : X.mg x = some (.ref f)) (hk : PySem.W.keepIn X.K (.ref f) = true)
    (hb : Binds X.K fd ps ds) (hd : Vals dvs ds) (hdd : ∀ W, RepL X.kw W dd dvs) (hx : Passes CXx X E) (h : AM X E (e :: es) as_) (hg : Gl X x := by rfl) (hdb : (x == ("__debug__" : Str)) = false := by decide) (he : starEach (e :: es) X.env = (false, eval e X.env) :: starEach es X.env := by rfl)
    (hpl : (backTo pos (starEach es X.env)).any (·.1) = false := by rfl) : EM X E (.Call (.Name x p) (e :: es) [] pos) (mCall mf dd as_) :=
  let ⟨_, h1, h2⟩ := h; ⟨_, pe_call F hr hg hm hk hb hd hx h1 hdb he hpl, snd_call hn hdd h2⟩
theorem em_toint (hm : X.mg "int" = none) (h : EM X E e oa) (hg : Gl X "int" := by rfl) (hs : starEach [e] X.env = (false, eval e X.env) :: starEach [] X.env := by rfl) (hpl : (backTo pos (starEach [] X.env)).any (·.1) = false := by rfl) : EM X E (.Call (.Name "int" p) [e] [] pos) (mArgs (d1 dInt) (mCons oa mNil)) :=
  em_ct call_int1 calls_int (nox_d1 nx_int) hm (by decide +kernel) (am_cons h am_nil hs) hg (by decide) (by decide) hs hpl
theorem em_isi (hm : X.mg "isinstance" = none) (h : EM X E a oa) (k : EM X E b ob) (hg : Gl X "isinstance" := by rfl) (hs2 : starEach [b] X.env = (false, eval b X.env) :: starEach [] X.env := by rfl) (hs : starEach [a, b] X.env = (false, eval a X.env) :: starEach [b] X.env := by rfl) (hpl : (backTo pos (starEach [b] X.env)).any (·.1) = false := by rfl) :
    EM X E (.Call (.Name "isinstance" p) [a, b] [] pos) (mArgs (d2 dIsi) (mCons oa (mCons ob mNil))) := em_cb call_isi calls_isi (nox_d2 nx_isi) hm (by decide +kernel) (am_cons h (am_cons k am_nil hs2) hs) hg (by decide) (by decide) hs hpl
/-! subscripts, displays, slices -/
theorem fm_lst (h : AM X E es as_) : FM X E (.List es pos) (mLst as_) := let ⟨_, h1, h2⟩ := h; ⟨_, pe_lst h1, sndf_lst h2⟩
theorem em_tup {k : Nat} (h : AM X E es as_) : EM X E (.Tuple es k pos) (mTup as_) := let ⟨_, h1, h2⟩ := h; ⟨_, pe_tup h1, snd_tup h2⟩
def PM (X : Cx) (E : XK) (e : Option PySem.Expr) (m : RE → Out (Option Int × RE)) : Prop := ∃ t, PO X e t ∧ SndP X.kw E t m
theorem pm_none : PM X E none mNoP := ⟨_, po_none, sndp_none⟩
theorem pm_some (h : EM X E e m) : PM X E (some e) (mPart m) := let ⟨_, h1, h2⟩ := h; ⟨_, po_some h1, sndp_some h2⟩
variable {lo hi : Option PySem.Expr} {ml mh : RE → Out (Option Int × RE)} {p2 : Pos}
theorem fm_cut (h : EM X E e oa) (hl : PM X E lo ml) (hh : PM X E hi mh) : FM X E (.Subscript e (.Slice lo hi none p2) pos) (mCut dCut oa ml mh) := let ⟨_, h1, h2⟩ := h; let ⟨_, h3, h4⟩ := hl; let ⟨_, h5, h6⟩ := hh; ⟨_, pe_slice sl_list h1 h3 h5, sndf_cut h2 h4 h6⟩
theorem em_cutS (h : EM X E e oa) (hl : PM X E lo ml) (hh : PM X E hi mh) : EM X E (.Subscript e (.Slice lo hi none p2) pos) (mCut dCutS oa ml mh) := let ⟨_, h1, h2⟩ := h; let ⟨_, h3, h4⟩ := hl; let ⟨_, h5, h6⟩ := hh; ⟨_, pe_slice (SlR.or sl_str sl_tupA) h1 h3 h5, snd_cutS h2 h4 h6⟩
theorem em_join {s : Str} {j : Nat} {apos p3 : Pos} (h : EM X E e oa) (hs : starEach [e] X.env = [(false, eval e X.env)] := by rfl) (hbase : attributeBase (.Constant (.str s) j p3) "join" X.env (eval (.Constant (.str s) j p3) X.env) = eval (.Constant (.str s) j p3) X.env := by rfl) (hline : (apos.endLine == pos.line) = true := by rfl) :
    EM X E (.Call (.Attribute (.Constant (.str s) j p3) "join" apos) [e] [] pos) (mOp1 (dJoin s) oa) := let ⟨_, h1, h2⟩ := h; ⟨_, pe_join pe_str h1 hs hbase hline, snd_join h2⟩
/-- a method of a list, one argument -/
theorem em_append {apos : Pos} (ha : EM X E a ma) (h : EM X E e oa) (hs : starEach [e] X.env = (false, eval e X.env) :: starEach [] X.env := by rfl) (hbase : attributeBase a "append" X.env (eval a X.env) = eval a X.env := by rfl)
    (hfew : ((backTo pos (starEach [e] X.env)).all (fun x => !x.1) && (backToKw pos (keywordEach [] X.env)).all (fun x => x.1.isSome)
      && decide ([e].length + ([] : List Keyword).length + (if ([] : List Keyword).isEmpty then 0 else 1) < 30)) = true := by rfl) (hline : (apos.endLine == pos.line) = true := by rfl) (hpl : (backTo pos (starEach [] X.env)).any (·.1) = false := by rfl) :
    EM X E (.Call (.Attribute a "append" apos) [e] [] pos) (mMut ma "list" fAppend (mCons oa mNil)) :=
  let ⟨_, h1, h2⟩ := h; let ⟨_, a1, a2⟩ := ha; ⟨_, pe_bm PySem.F.plainAttrs_list PySem.F.slot_list_append PySem.F.type_list_append mt_append a1 (pa_cons h1 pa_nil hs) hbase hfew hline hs hpl, snd_mut mut_append nx_append a2 (snd_cons h2 snd_nil)⟩
/-! targets, walks, comprehensions -/
def GM (X : Cx) (E : XK) (tg : PySem.Expr) (st : D → RE → Option RE) (vs : List Nat) : Prop := ∃ g, PG X tg g ∧ GS X.kw E g st ∧ GV g vs
theorem gm_name (i : Nat) (nd : X.N.Nodup) (hN : X.N[i]? = some x := by rfl) (hl : Loc X.env.scope x := by first | exact Or.inl rfl | exact Or.inr rfl) (hf : X.fn x = true ∨ X.env.scope.names.lookup x = some .local := by first | exact Or.inl rfl | exact Or.inr rfl) : GM X E (.Name x pos) (stName i) [i] :=
  ⟨_, pg_name nd hN hl hf, gs_name, gv_name⟩
def IM (X : Cx) (E : XK) (tg it : PySem.Expr) (m : RE → Out (List D × RE)) : Prop := ∃ wi, PI X tg it wi ∧ SndI X.kw E wi m
@[simp] def mRng1 (oa : RE → Out (D × RE)) : RE → Out (List D × RE) := fun r => (mCons oa mNil r).bnd fun p => match drs p.2.st p.1 with
  | some [.int j] => if -1000000 ≤ j ∧ j ≤ 1000000 then .ok (rangeD 0 j.toNat, p.2) else .stuck
  | _ => .stuck
@[simp] def mRng2 (oa ob : RE → Out (D × RE)) : RE → Out (List D × RE) := fun r => (mCons oa (mCons ob mNil) r).bnd fun p => match drs p.2.st p.1 with
  | some [.int i, .int j] => if -1000000 ≤ i ∧ i ≤ 1000000 ∧ -1000000 ≤ j ∧ j ≤ 1000000 then .ok (rangeD i (j - i).toNat, p.2) else .stuck
  | _ => .stuck
theorem im_rng1 {tg : PySem.Expr} (hm : X.mg "range" = none) (h : EM X E e oa) (hg : Gl X "range" := by rfl) (hs : starEach [e] X.env = (false, eval e X.env) :: starEach [] X.env := by rfl) (hs' : starEach [e] X.env = [(false, eval e X.env)] := by rfl) : IM X E tg (.Call (.Name "range" p) [e] [] pos) (mRng1 oa) :=
  let ⟨_, h1, h2⟩ := h; ⟨_, pi_range1 hg hm (pa_cons h1 pa_nil hs) hs', sndi_rng1 (snd_cons h2 snd_nil)⟩
end
end Mir
set_option maxHeartbeats 1000000
namespace Mir
open PySem PySem.Spec PyProof.Rows L2
section
variable {X : Cx} {E : XK} {a b c e : PySem.Expr} {es : List PySem.Expr} {pos p : Pos} {x : Str}
variable {ma mb m oa ob oc : RE → Out (D × RE)} {mt mu : RE → Out (Bool × RE)} {as_ : RE → Out (List D × RE)} {ms mz : RE → Out Fl} {s : Stmt} {ss st2 : List Stmt}
/-! comprehensions -/
@[simp] def mYes : RE → Out (Bool × RE) := fun r => .ok (true, r)
def TMs (X : Cx) (E : XK) (es : List PySem.Expr) (m : RE → Out (Bool × RE)) : Prop := ∃ te, PTs X es te ∧ SndT X.kw E te m
theorem tms_nil : TMs X E [] mYes := ⟨_, pts_nil, fun c σ H W r Q R w => w H W R (Le.refl W)⟩
abbrev BIx := Shared × Hp × Addr × List (Str × Addr) × List Addr
abbrev Xb (X : Cx) (scope : Scope) (i : BIx) : Cx := X.blk i.1 i.2.1 scope (compEnvC scope i.2.2.2.1 i.2.2.1 X.env) i.2.2.2.2
section
variable {elt tg iter : PySem.Expr} {ifs : List PySem.Expr} {scope : Scope} {own : List (Str × Nat)} {mi : RE → Out (List D × RE)} {st : D → RE → Option RE} {me : RE → Out (D × RE)} {y : Str} {py spos : Pos}
theorem lc_all {vs : List Nat} (hg : ∀ i : BIx, GM (Xb X scope i) E tg st vs) (ht : ∀ i : BIx, TMs (Xb X scope i) E ifs mt) (he : ∀ i : BIx, EM (Xb X scope i) E elt me) :
    ∃ g tt te, (∀ i, PG (Xb X scope i) tg g) ∧ (∀ i, PTs (Xb X scope i) ifs tt) ∧ (∀ i, PE (Xb X scope i) elt te) ∧ GV g vs ∧ GS X.kw E g st ∧ SndT X.kw E tt mt ∧ Snd X.kw E te me := by
  have hg' := fun i => Classical.choose_spec (hg i)
  have ht' := fun i => Classical.choose_spec (ht i)
  have he' := fun i => Classical.choose_spec (he i)
  exact ⟨fun v σ H Q => ∀ i, Classical.choose (hg i) v σ H Q, fun σ H Q => ∀ i, Classical.choose (ht i) σ H Q, fun σ H Q => ∀ i, Classical.choose (he i) σ H Q, fun i => ⟨fun pins s σ H v u Q I r h => (hg' i).1.run pins s σ H v u Q I r (h i)⟩, fun i => ⟨fun pins s σ H Q I h => (ht' i).1.run pins s σ H Q I (h i)⟩, fun i => ⟨fun pins s σ H Q I h => (he' i).1.run pins s σ H Q I (h i)⟩,
    fun v σ H Q Q' k h i => (hg' i).2.2 v σ H Q Q' k (h i), fun c v d σ H W r r' Q R h e k i => (hg' i).2.1 c v d σ H W r r' Q R h e k, fun c σ H W r Q R w i => (ht' i).2 c σ H W r Q R w, fun c σ H W r Q R w i => (he' i).2 c σ H W r Q R w⟩
theorem fm_lc (vs : List Nat) (own : List (Str × Nat)) (nd : X.N.Nodup) (ok : BlkOk X.N X.env.scope scope own) (hi : IM X E tg iter mi) (hg : ∀ i : BIx, GM (Xb X scope i) E tg st vs) (ht : ∀ i : BIx, TMs (Xb X scope i) E ifs mt) (he : ∀ i : BIx, EM (Xb X scope i) E elt me)
    (ho : own.map (·.2) = vs := by rfl) (hc : X.calm = true := by rfl) (hs : ∀ x, foldedSetIterable iter X.env x = pure x := by intro _; rfl) : FM X E (.ListComp elt [⟨tg, iter, ifs, 0⟩] scope pos) (mComp vs mi st mt me) := by
  obtain ⟨wi, i1, i2⟩ := hi
  obtain ⟨g, tt, te, h2, h3, h4, s1, s2, s3, s4⟩ := lc_all hg ht he
  subst ho
  exact ⟨_, pe_lc hc nd i1 ok (fun s H Ca cl fp => h2 (s, H, Ca, cl, fp)) (fun s H Ca cl fp => h3 (s, H, Ca, cl, fp)) (fun s H Ca cl fp => h4 (s, H, Ca, cl, fp)) hs, sndf_comp s1 i2 s2 s3 s4⟩
end
/-! statements -/
theorem bm_nil : BM X E [] mNext := ⟨_, pss_nil, snds_next⟩
theorem bm_one (h : SM X E s ms) : BM X E [s] ms := let ⟨_, h1, h2⟩ := h; ⟨_, pss_one h1, h2⟩
theorem bm_cons (h : SM X E s ms) (k : BM X E ss mz) : BM X E (s :: ss) (mSeq ms mz) := let ⟨_, h1, h2⟩ := h; let ⟨_, k1, k2⟩ := k; ⟨_, pss_cons h1 k1, snds_seq h2 k2⟩
theorem sm_expr (h : EM X E e m) (hs : swapsWith e none pos.line X.env = pure false := by rfl) : SM X E (.Expr e pos) (mDrop m) := let ⟨_, h1, h2⟩ := h; ⟨_, ps_expr h1 hs, snds_drop h2⟩
theorem sm_if (ht : TM X E c mt) (h : BM X E ss ms) (k : BM X E st2 mz) : SM X E (.If c ss st2 pos) (mIf mt ms mz) := let ⟨_, t1, t2⟩ := ht; let ⟨_, h1, h2⟩ := h; let ⟨_, k1, k2⟩ := k; ⟨_, ps_if t1 h1 k1, snds_if t2 h2 k2⟩
theorem sm_for {tg iter : PySem.Expr} {mi : RE → Out (List D × RE)} {st : D → RE → Option RE} {vs : List Nat} (hi : IM X E tg iter mi) (hg : GM X E tg st vs) (hb : BM X E ss ms) (hp : PassesOwn (model X.prog X.w) X.A X.env X.xe) (hc : X.calm = true := by rfl) (hs : ∀ x, foldedSetIterable iter X.env x = pure x := by intro _; rfl) :
    SM X E (.For tg iter ss [] pos) (mFor mi st ms) := let ⟨_, i1, i2⟩ := hi; let ⟨_, g1, g2, _⟩ := hg; let ⟨_, h1, h2⟩ := hb; ⟨_, ps_for hp hc i1 g1 h1 hs, snds_for i2 g2 h2⟩
theorem sm_ret (h : EM X E e m) : SM X E (.Return (some e) pos) (mRet m) := let ⟨_, h1, h2⟩ := h; ⟨_, ps_ret h1, snds_ret h2⟩
theorem sm_set (i : Nat) {p3 : Pos} (nd : X.N.Nodup) (h : EM X E e m) (hN : X.N[i]? = some x := by rfl) (hl : Loc X.env.scope x := by first | exact Or.inl rfl | exact Or.inr rfl) (hs : swapsWith e (some (.Name x p3)) pos.line X.env = pure false := by rfl) (hf : X.fn x = true ∨ X.env.scope.names.lookup x = some .local := by first | exact Or.inl rfl | exact Or.inr rfl) :
    SM X E (.Assign [.Name x p3] e pos) (mSet i m) := let ⟨_, h1, h2⟩ := h; ⟨_, ps_set nd hN hl h1 hs hf, snds_set h2⟩
/-! a def's mirror -/
@[simp] def noX {α : Type} (o : Out α) : Out α := match o with
  | .ok a => .ok a
  | _ => .stuck
@[simp] theorem noX_ok {α : Type} (a : α) : noX (.ok a) = .ok a := rfl
theorem Wp.noX {α : Type} {o : Out α} {P : α → Prop} {X X' : Exn → Sto → Prop} (h : Wp (noX o) P X) : Wp o P X' := by
  cases o
  · exact h
  · exact h.elim
  · exact h.elim
/-- n parameters, N slots: what was made stays as it is -/
@[simp] def fnK (n N : Nat) (mb : RE → Out Fl) : Fn := fun ds st => if ds.length = n then runB mb (startR N ds st) else .stuck
@[simp] def n0 (m : Fn) : Fn := fun ds st => noX (m ds st)
def HasN (n : Nat) (m : Fn) : Prop := ∀ ds st, m ds st ≠ .stuck → ds.length = n
theorem hn_k {n N : Nat} {mb : RE → Out Fl} : HasN n (fnK n N mb) := fun ds st h => by
  unfold fnK at h
  split at h
  · assumption
  · exact absurd rfl h
theorem hn_0 {n : Nat} {m : Fn} (h : HasN n m) : HasN n (n0 m) := fun ds st z => h ds st fun e => z (by simp only [n0, e, noX])
theorem hn_c {n : Nat} {m : Fn} (h : HasN n m) : HasN n (cutF m) := fun ds st z => h ds st fun e => z (by simp only [cutF, e])
def NoXF (m : Fn) : Prop := ∀ ds st x st', m ds st ≠ .exc x st'
theorem nxf_0 {m : Fn} : NoXF (n0 m) := fun ds st x st' h => by
  simp only [n0, noX] at h
  split at h <;> cases h
theorem nxf_c {m : Fn} (h : NoXF m) : NoXF (cutF m) := fun ds st x st' e => by
  unfold cutF at e
  split at e
  · unfold cutR at e; split at e <;> cases e
  · rename_i q; exact h _ _ _ _ q
  · cases e
def spN (K : KW) (n : Nat) (m : Fn) : Sp := fun vs H Q _ => spP K n m vs H Q E0
end
section
variable {P : Program} {w : World} {K : PySem.W.Frag} {mg : Str → Option Value} {base : Heap}
theorem fn_0 {x qual : Str} {st : Stmt} {f : Addr} {fd : FuncData} {N ps : List Str} {k : Nat} {mb : RE → Out Fl} (F : Fun K x qual st f fd) (S : FnScope N ps (defScope st))
    (hb : ∀ (cdv : Value) (A : Around) (outer : List PySem.Env) (s : Shared) (H : Hp) (E : XK), Room k (A.deeper (envOfC qual (defScope st) s.heap.objs.size f cdv)) →
      BM (cxOf CX0 P w K mg base N qual (defScope st) f cdv A outer s H E).nox E0 (defBody st) mb) :
    FnOk P w K mg base CX0 (k + 1) f fd ps (spN (⟨K, w⟩ : KW) ps.length (n0 (fnK ps.length N.length mb))) := by
  refine F.ok S (fun vs H Q E h => h.1) (fun cdv A outer s H vs Q E hr h => ?_)
  obtain ⟨hl, ds, sto, W, R, rep, wp⟩ := h
  obtain ⟨ts, hp, hs⟩ := hb cdv A outer s H E hr
  refine ⟨ts, hp, hs _ _ _ _ _ _ (rr_start R rep) (body_post ?_)⟩
  unfold n0 fnK at wp
  split at wp
  · exact wp.noX
  · exact wp.elim
/-- a def that may raise -/
theorem fn_x {x qual : Str} {st : Stmt} {f : Addr} {fd : FuncData} {N ps : List Str} {k : Nat} {mb : RE → Out Fl} (F : Fun K x qual st f fd) (S : FnScope N ps (defScope st))
    (hb : ∀ (cdv : Value) (A : Around) (outer : List PySem.Env) (s : Shared) (H : Hp) (E : XK), Room k (A.deeper (envOfC qual (defScope st) s.heap.objs.size f cdv)) →
      BM (cxOf (L2.CX P w) P w K mg base N qual (defScope st) f cdv A outer s H E) E (defBody st) mb) :
    FnOk P w K mg base (L2.CX P w) (k + 1) f fd ps (spP (⟨K, w⟩ : KW) ps.length (fnK ps.length N.length mb)) := by
  refine F.okX S (fun vs H Q E h => h.1) (fun cdv A outer s H vs Q E hr h => ?_)
  obtain ⟨hl, ds, sto, W, R, rep, wp⟩ := h
  obtain ⟨ts, hp, hs⟩ := hb cdv A outer s H E hr
  refine ⟨ts, hp, hs _ _ _ _ _ _ (rr_start R rep) (body_post ?_)⟩
  unfold fnK at wp
  split at wp
  · exact wp
  · exact wp.elim
end
section
variable {K : KW} {E : XK}
theorem snd_call0 {ta : TA} {ms : RE → Out (List D × RE)} {n : Nat} {m : Fn} {dd : List D} {dvs : List V} (hn : HasN n m) (nx : NoXF m) (hd : ∀ W, RepL K W dd dvs) (h : SndA K E ta ms) : Snd K E (tCall (spN K n m) dvs E0 ta) (mCall m dd ms) := fun c σ H W r Q R w => by
  refine h c σ H W r _ R ((Wp.bnd w).mono (fun p q vs H1 W1 R1 s1 h1 => ?_) fun _ _ x => x)
  have rl := repL_app h1 (hd W1)
  refine ⟨?_, p.1 ++ dd, p.2.st, W1, R1.entry, rl, ?_⟩
  · rw [← repL_len rl]
    refine hn _ p.2.st fun z => ?_
    simp only [z] at q; exact q
  · cases e : m (p.1 ++ dd) p.2.st with
    | ok d =>
      simp only [e, bnd_ok] at q
      exact fun v H' W' a hv => q v H' W' (RR.call R1 a) (s1.trans a.g0) hv
    | exc x st => exact absurd e (nx _ _ _ _)
    | stuck => simp only [e] at q; exact q.elim
end
section
variable {X : Cx} {E : XK} {e : PySem.Expr} {es : List PySem.Expr} {pos p : Pos} {x : Str} {as_ : RE → Out (List D × RE)}
/-- what is known of a def of the text that raises nothing -/
structure Fn0 (P : Program) (w : World) (K : PySem.W.Frag) (mg : Str → Option Value) (base : Heap) (k : Nat) (x : Str) (n : Nat) (mf : Fn) : Prop where
  ex : ∃ f fd ps, FnOk P w K mg base CX0 k f fd ps (spN (⟨K, w⟩ : KW) n mf) ∧ mg x = some (.ref f) ∧ PySem.W.keepIn K (.ref f) = true ∧ Binds K fd ps []
  hn : HasN n mf
  nx : NoXF mf
theorem Fn0.mono {P : Program} {w : World} {K : PySem.W.Frag} {mg : Str → Option Value} {base : Heap} {k j : Nat} {x : Str} {n : Nat} {mf : Fn} (F : Fn0 P w K mg base k x n mf) (h : k ≤ j) : Fn0 P w K mg base j x n mf :=
  let ⟨f, fd, ps, h1, h2⟩ := F.ex; ⟨⟨f, fd, ps, h1.mono h, h2⟩, F.hn, F.nx⟩
theorem e0 {k j n : Nat} {mf : Fn} (F : Fn0 X.prog X.w X.K X.mg X.base k x n mf) (hr : Room j X.A) (h : AM X E (e :: es) as_) (hj : k ≤ j := by decide) (hg : Gl X x := by rfl) (hdb : (x == ("__debug__" : Str)) = false := by decide) (he : starEach (e :: es) X.env = (false, eval e X.env) :: starEach es X.env := by rfl)
    (hpl : (backTo pos (starEach es X.env)).any (·.1) = false := by rfl) : EM X E (.Call (.Name x p) (e :: es) [] pos) (mCall mf [] as_) := by
  obtain ⟨_, h1, h2⟩ := h
  obtain ⟨f, fd, ps, F1, F2, F3, F4⟩ := F.ex
  exact ⟨_, pe_call F1 (hr.mono hj) hg F2 F3 F4 .nil pass0 h1 hdb he hpl, snd_call0 F.hn F.nx (fun _ => by simp only [RepL]) h2⟩
end
section
variable {P : Program} {w : World} {K : PySem.W.Frag} {mg : Str → Option Value} {base : Heap}
/-- .. its things stay cells -/
theorem fn0_k {x qual : Str} {st : Stmt} {f : Addr} {fd : FuncData} {N ps : List Str} {k : Nat} {mb : RE → Out Fl} (F : Fun K x qual st f fd) (S : FnScope N ps (defScope st)) (hg : mg x = some (.ref f)) (hbi : Binds K fd ps [])
    (hb : ∀ (cdv : Value) (A : Around) (outer : List PySem.Env) (s : Shared) (H : Hp) (E : XK), Room k (A.deeper (envOfC qual (defScope st) s.heap.objs.size f cdv)) →
      BM (cxOf CX0 P w K mg base N qual (defScope st) f cdv A outer s H E).nox E0 (defBody st) mb) :
    Fn0 P w K mg base (k + 1) x ps.length (n0 (fnK ps.length N.length mb)) := ⟨⟨f, fd, ps, fn_0 F S hb, hg, F.kp, hbi⟩, hn_0 hn_k, nxf_0⟩
theorem Fn0.cut {k : Nat} {x : Str} {n : Nat} {mf : Fn} (F : Fn0 P w K mg base k x n mf) : Fn0 P w K mg base k x n (cutF mf) :=
  let ⟨f, fd, ps, h1, h2⟩ := F.ex; ⟨⟨f, fd, ps, h1.imp fun vs H Q E h => sp_cut h, h2⟩, hn_c F.hn, nxf_c F.nx⟩
/-- .. what it has made is frozen -/
theorem fn0_c {x qual : Str} {st : Stmt} {f : Addr} {fd : FuncData} {N ps : List Str} {k : Nat} {mb : RE → Out Fl} (F : Fun K x qual st f fd) (S : FnScope N ps (defScope st)) (hg : mg x = some (.ref f)) (hbi : Binds K fd ps [])
    (hb : ∀ (cdv : Value) (A : Around) (outer : List PySem.Env) (s : Shared) (H : Hp) (E : XK), Room k (A.deeper (envOfC qual (defScope st) s.heap.objs.size f cdv)) →
      BM (cxOf CX0 P w K mg base N qual (defScope st) f cdv A outer s H E).nox E0 (defBody st) mb) :
    Fn0 P w K mg base (k + 1) x ps.length (cutF (n0 (fnK ps.length N.length mb))) := (fn0_k F S hg hbi hb).cut
end
end Mir
set_option maxHeartbeats 1000000
namespace Mir
open PySem PySem.Spec PyProof.Rows L2
/-! ## dicts -/
def valD {κ : Type} [DecidableEq κ] (kvs : List (κ × D)) (k : κ) : Option D := (kvs.find? fun kv => decide (kv.1 = k)).map (·.2)
def hasD {κ : Type} [DecidableEq κ] (kvs : List (κ × D)) (k : κ) : Bool := kvs.any fun kv => decide (kv.1 = k)
def putD {κ : Type} [DecidableEq κ] (kvs : List (κ × D)) (k : κ) (v : D) : List (κ × D) :=
  if hasD kvs k = true then kvs.map (fun kv => if kv.1 = k then (kv.1, v) else kv) else kvs ++ [(k, v)]
def dropD {κ : Type} [DecidableEq κ] (kvs : List (κ × D)) (k : κ) : List (κ × D) := kvs.filter fun kv => decide (kv.1 ≠ k)
def mergeD {κ : Type} [DecidableEq κ] (kvs more : List (κ × D)) : List (κ × D) := more.foldl (fun acc kv => putD acc kv.1 kv.2) kvs
@[simp] def keyD : D → Option Key
  | .int i => some (.inl i)
  | .str x => some (.inr x)
  | _ => none
def ofKey : Key → D
  | .inl i => .int i
  | .inr x => .str x
section
variable {K : KW} {E : XK} {c : Fm} {σ σ' : L2.St} {H H' : Hp} {W W' : Wd} {r r' : RE}
theorem keyD_rep {d : D} {k : Key} {v : V} (e : keyD d = some k) (h : RepD K W d v) : v = kV k := by
  cases d <;> simp only [keyD, reduceCtorEq, Option.some.injEq] at e <;> subst e <;> simpa only [RepD, kV] using h
theorem keyD_repT {d : D} {k : Key} {v : V} (e : keyD d = some k) (h : RepT K H W d v) : v = kV k := by
  cases d <;> simp only [keyD, reduceCtorEq, Option.some.injEq] at e <;> subst e <;> simpa only [RepT, RepD, kV] using h
theorem repD_key {k : Key} : RepD K W (ofKey k) (kV k) := by cases k <;> simp only [ofKey, kV, RepD]
/-- pairs by their keys, of any kind -/
def RepG {κ : Type} (K : KW) (W : Wd) : List (κ × D) → List (κ × V) → Prop
  | [], vs => vs = []
  | (k, d) :: ds, vs => ∃ v us, vs = (k, v) :: us ∧ RepD K W d v ∧ RepG K W ds us
theorem repK_g : ∀ {ds : List (Key × D)} {vs : List (Key × V)}, RepK K W ds vs ↔ RepG K W ds vs
  | [], vs => by simp only [RepK, RepG]
  | (k, d) :: ds, vs => by
    simp only [RepK, RepG]
    exact ⟨fun ⟨v, us, e, q, t⟩ => ⟨v, us, e, q, repK_g.mp t⟩, fun ⟨v, us, e, q, t⟩ => ⟨v, us, e, q, repK_g.mpr t⟩⟩
section
variable {κ : Type} [DecidableEq κ]
theorem repG_len : ∀ {ds : List (κ × D)} {vs : List (κ × V)}, RepG K W ds vs → ds.length = vs.length
  | [], vs, h => by simp only [RepG] at h; rw [h]; rfl
  | (k, d) :: ds, vs, h => by
    simp only [RepG] at h
    obtain ⟨v, us, e, _, t⟩ := h
    rw [e, List.length_cons, List.length_cons, repG_len t]
theorem repG_app : ∀ {ds es : List (κ × D)} {vs us : List (κ × V)}, RepG K W ds vs → RepG K W es us → RepG K W (ds ++ es) (vs ++ us)
  | [], es, vs, us, h, k => by simp only [RepG] at h; subst h; exact k
  | (k', d) :: ds, es, vs, us, h, k => by
    simp only [RepG] at h
    obtain ⟨v, ws, e, q, t⟩ := h
    subst e
    show RepG K W ((k', d) :: (ds ++ es)) ((k', v) :: (ws ++ us))
    simp only [RepG]
    exact ⟨v, ws ++ us, rfl, q, repG_app t k⟩
theorem repG_has {k : κ} : ∀ {ds : List (κ × D)} {vs : List (κ × V)}, RepG K W ds vs → hasD ds k = vs.any fun kv => decide (kv.1 = k)
  | [], vs, h => by simp only [RepG] at h; rw [h]; rfl
  | (k', d) :: ds, vs, h => by
    simp only [RepG] at h
    obtain ⟨v, us, e, _, t⟩ := h
    rw [e]
    have := repG_has (k := k) t
    unfold hasD at this ⊢
    rw [List.any_cons, List.any_cons, this]
theorem repG_val {k : κ} : ∀ {ds : List (κ × D)} {vs : List (κ × V)}, RepG K W ds vs → (valD ds k = none ∧ valV vs k = none) ∨ ∃ d v, valD ds k = some d ∧ valV vs k = some v ∧ RepD K W d v
  | [], vs, h => by simp only [RepG] at h; rw [h]; exact .inl ⟨rfl, rfl⟩
  | (k', d) :: ds, vs, h => by
    simp only [RepG] at h
    obtain ⟨v, us, e, q, t⟩ := h
    rw [e]
    unfold valD valV
    rw [List.find?_cons, List.find?_cons]
    by_cases hk : k' = k
    · simp only [hk, decide_true]
      exact .inr ⟨d, v, rfl, rfl, q⟩
    · simp only [hk, decide_false]
      exact repG_val t
theorem repG_map {k : κ} {d : D} {v : V} (h : RepD K W d v) : ∀ {ds : List (κ × D)} {vs : List (κ × V)}, RepG K W ds vs → RepG K W (ds.map fun kv => if kv.1 = k then (kv.1, d) else kv) (vs.map fun kv => if kv.1 = k then (kv.1, v) else kv)
  | [], vs, q => by simp only [RepG] at q; subst q; simp only [List.map_nil, RepG]
  | (k', d') :: ds, vs, q => by
    simp only [RepG] at q
    obtain ⟨v', us, e, q', t⟩ := q
    subst e
    rw [List.map_cons, List.map_cons]
    have := repG_map (k := k) h t
    by_cases hk : k' = k
    · simp only [hk, if_true, RepG]
      exact ⟨v, _, rfl, h, this⟩
    · simp only [if_neg hk, RepG]
      exact ⟨v', _, rfl, q', this⟩
theorem repG_put {k : κ} {d : D} {v : V} {ds : List (κ × D)} {vs : List (κ × V)} (h : RepD K W d v) (q : RepG K W ds vs) : RepG K W (putD ds k d) (putK vs k v) := by
  unfold putD putK
  rw [repG_has q]
  split
  · exact repG_map h q
  · exact repG_app q (by simp only [RepG]; exact ⟨v, [], rfl, h, rfl⟩)
theorem repG_merge : ∀ {ms ds : List (κ × D)} {us vs : List (κ × V)}, RepG K W ms us → RepG K W ds vs → RepG K W (mergeD ds ms) (us.foldl (fun acc kv => putK acc kv.1 kv.2) vs)
  | [], ds, us, vs, h, q => by simp only [RepG] at h; subst h; exact q
  | (k, d) :: ms, ds, us, vs, h, q => by
    simp only [RepG] at h
    obtain ⟨v, us', e, hd, t⟩ := h
    subst e
    exact repG_merge (ds := putD ds k d) (vs := putK vs k v) t (repG_put hd q)
end
theorem repK_len {ds : List (Key × D)} {vs : List (Key × V)} (h : RepK K W ds vs) : ds.length = vs.length := repG_len (repK_g.mp h)
theorem repK_val {k : Key} {ds : List (Key × D)} {vs : List (Key × V)} (h : RepK K W ds vs) : (valD ds k = none ∧ valV vs k = none) ∨ ∃ d v, valD ds k = some d ∧ valV vs k = some v ∧ RepD K W d v := repG_val (repK_g.mp h)
theorem repK_put {k : Key} {d : D} {v : V} {ds : List (Key × D)} {vs : List (Key × V)} (h : RepD K W d v) (q : RepK K W ds vs) : RepK K W (putD ds k d) (putK vs k v) := repK_g.mpr (repG_put h (repK_g.mp q))
theorem repK_merge {ms ds : List (Key × D)} {us vs : List (Key × V)} (h : RepK K W ms us) (q : RepK K W ds vs) : RepK K W (mergeD ds ms) (mergeK vs us) := repK_g.mpr (repG_merge (repK_g.mp h) (repK_g.mp q))
theorem repT_len : ∀ {ds : List (KN.NK × D)} {es : KN.Ens}, RepKT K W ds es → ds.length = es.length
  | [], es, h => by simp only [RepKT] at h; subst h; rfl
  | (k, d) :: ds, es, h => by
    simp only [RepKT] at h
    obtain ⟨A, v, us, rfl, _, _, t⟩ := h
    rw [List.length_cons, List.length_cons, repT_len t]
theorem repT_keys : ∀ {ds : List (KN.NK × D)} {es : KN.Ens}, RepKT K W ds es → KN.Keys W.g es
  | [], es, h => by simp only [RepKT] at h; subst h; exact fun p hp => nomatch hp
  | (k, d) :: ds, es, h => by
    simp only [RepKT] at h
    obtain ⟨A, v, us, rfl, hk, _, t⟩ := h
    intro p hp
    rcases List.mem_cons.mp hp with rfl | hp
    · exact hk
    · exact repT_keys t p hp
theorem repT_val {k : KN.NK} : ∀ {ds : List (KN.NK × D)} {es : KN.Ens}, RepKT K W ds es → (valD ds k = none ∧ KN.valN es k = none) ∨ ∃ d v, valD ds k = some d ∧ KN.valN es k = some v ∧ RepD K W d v
  | [], es, h => by simp only [RepKT] at h; subst h; exact .inl ⟨rfl, rfl⟩
  | (k', d) :: ds, es, h => by
    simp only [RepKT] at h
    obtain ⟨A, v, us, rfl, _, q, t⟩ := h
    by_cases z : k' = k
    · exact .inr ⟨d, v, by simp [valD, z], by simp [KN.valN, z], q⟩
    · rcases repT_val (k := k) t with ⟨h1, h2⟩ | ⟨d', v', h1, h2, h3⟩
      · refine .inl ⟨?_, ?_⟩
        · unfold valD at h1 ⊢; rw [List.find?_cons]; simp only [decide_eq_false z]; exact h1
        · unfold KN.valN at h2 ⊢; rw [List.find?_cons]; simp only [decide_eq_false z]; exact h2
      · refine .inr ⟨d', v', ?_, ?_, h3⟩
        · unfold valD at h1 ⊢; rw [List.find?_cons]; simp only [decide_eq_false z]; exact h1
        · unfold KN.valN at h2 ⊢; rw [List.find?_cons]; simp only [decide_eq_false z]; exact h2
theorem repT_app : ∀ {ds fs : List (KN.NK × D)} {es us : KN.Ens}, RepKT K W ds es → RepKT K W fs us → RepKT K W (ds ++ fs) (es ++ us)
  | [], fs, es, us, h, k => by simp only [RepKT] at h; subst h; exact k
  | (k', d) :: ds, fs, es, us, h, k => by
    simp only [RepKT] at h
    obtain ⟨A, v, ws, rfl, hk, q, t⟩ := h
    show RepKT K W ((k', d) :: (ds ++ fs)) ((k', A, v) :: (ws ++ us))
    simp only [RepKT]
    exact ⟨A, v, _, rfl, hk, q, repT_app t k⟩
theorem repT_map {k : KN.NK} {d : D} {v : V} (h : RepD K W d v) : ∀ {ds : List (KN.NK × D)} {es : KN.Ens}, RepKT K W ds es → RepKT K W (ds.map fun kv => if kv.1 = k then (kv.1, d) else kv) (es.map fun p => if p.1 = k then (p.1, p.2.1, v) else p)
  | [], es, q => by simp only [RepKT] at q; subst q; simp only [List.map_nil, RepKT]
  | (k', d') :: ds, es, q => by
    simp only [RepKT] at q
    obtain ⟨A, v', ws, rfl, hk, q, t⟩ := q
    rw [List.map_cons, List.map_cons]
    by_cases z : k' = k
    · simp only [z, if_true, RepKT]
      exact ⟨A, v, _, rfl, z ▸ hk, h, repT_map h t⟩
    · simp only [if_neg z, RepKT]
      exact ⟨A, v', _, rfl, hk, q, repT_map h t⟩
theorem repT_put {k : KN.NK} {A : Addr} {d : D} {v : V} {ds : List (KN.NK × D)} {es : KN.Ens} (hk : KN.KeyOk W.g k A) (h : RepD K W d v) (q : RepKT K W ds es) : RepKT K W (putD ds k d) (KN.putN es k A v) := by
  have e : hasD ds k = (KN.valN es k).isSome := by
    have z : hasD ds k = (valD ds k).isSome := by unfold hasD valD; rw [Option.isSome_map, Bool.eq_iff_iff, List.any_eq_true, List.find?_isSome]
    rw [z]
    rcases repT_val (k := k) q with ⟨h1, h2⟩ | ⟨d', v', h1, h2, _⟩ <;> rw [h1, h2] <;> rfl
  unfold putD KN.putN
  rw [e]
  split
  · exact repT_map h q
  · exact repT_app q (by simp only [RepKT]; exact ⟨A, v, [], rfl, hk, h, rfl⟩)
/-- {} -/
@[simp] def mDnew : RE → Out (D × RE) := fun r => .ok (.dic [], r)
theorem sndf_dnew : SndF K E tDNewK mDnew := fun c σ H W r Q R w p hp => by
  obtain ⟨R1, f1⟩ := R.fresh (o := .dK []) (d := .dic []) hp ⟨p, [], rfl, upd_same, by simp only [RepK]⟩
  exact w p _ W R1 (Le.refl W) f1
/-- {k: v, ..} -/
def SndPr (K : KW) (E : XK) (trs : List (TE × TE)) (m : RE → Out (List (Key × D) × RE)) : Prop := ∀ (c : Fm) (σ : L2.St) (H : Hp) (W : Wd) (r : RE) (Q : List (V × V) → Hp → Prop), RR K c σ H W r →
  Wp (m r) (fun p => ∀ kvs H' W', RR K c σ H' W' p.2 → Le W W' → RepK K W' p.1 kvs → Q (kvs.map fun kv => (kV kv.1, kv.2)) H') (XP K c E) → tPairs trs σ H Q
@[simp] def mPr0 : RE → Out (List (Key × D) × RE) := fun r => .ok ([], r)
@[simp] def mPr (mk mv : RE → Out (D × RE)) (mr : RE → Out (List (Key × D) × RE)) : RE → Out (List (Key × D) × RE) := fun r => (mk r).bnd fun k => (mv k.2).bnd fun v => (mr v.2).bnd fun q => match keyD k.1 with
  | some key => .ok ((key, v.1) :: q.1, q.2)
  | none => .stuck
theorem sndpr_nil : SndPr K E [] mPr0 := fun c σ H W r Q R w => w [] H W R (Le.refl W) (by simp only [RepK])
theorem sndpr_cons {tk tv : TE} {trs : List (TE × TE)} {mk mv : RE → Out (D × RE)} {mr : RE → Out (List (Key × D) × RE)} (hk : Snd K E tk mk) (hv : Snd K E tv mv) (hr : SndPr K E trs mr) : SndPr K E ((tk, tv) :: trs) (mPr mk mv mr) := fun c σ H W r Q R w => by
  refine hk c σ H W r _ R ((Wp.bnd w).mono (fun p q v1 H1 W1 R1 s1 h1 => ?_) fun _ _ x => x)
  refine hv c σ H1 W1 p.2 _ R1 ((Wp.bnd q).mono (fun p2 q2 v2 H2 W2 R2 s2 h2 => ?_) fun _ _ x => x)
  refine hr c σ H2 W2 p2.2 _ R2 ((Wp.bnd q2).mono (fun p3 q3 kvs H3 W3 R3 s3 h3 => ?_) fun _ _ x => x)
  cases e : keyD p.1 with
  | none => simp only [e] at q3; exact q3.elim
  | some key =>
    simp only [e] at q3
    have e1 := keyD_rep e h1
    subst e1
    exact q3 ((key, v2) :: kvs) H3 W3 R3 ((s1.trans s2).trans s3) (by simp only [RepK]; exact ⟨v2, kvs, rfl, h2.mono s3, h3⟩)
@[simp] def mDisp (mp : RE → Out (List (Key × D) × RE)) : RE → Out (D × RE) := fun r => (mp r).bnd fun p => if p.1.length ≤ 15 then .ok (.dic (mergeD [] p.1), p.2) else .stuck
theorem sndf_disp {trs : List (TE × TE)} {mp : RE → Out (List (Key × D) × RE)} (h : SndPr K E trs mp) : SndF K E (tDisp trs) (mDisp mp) := fun c σ H W r Q R w p hp => by
  have R1 : RR K c σ (upd H p (.dK [])) W r := R.ext (Ext.alloc0 R.gh hp)
  have RE1 := R1.enter
  have hb : p ∉ W.b := fun z => R.there z hp
  have heD : c.He p = none := R.heNone hp
  have hlD : ∀ q ∈ c.lk, q.1 ≠ p := fun q hq z => by have := R.lk q hq; rw [z, hp] at this; cases this
  refine h _ σ _ W r _ RE1 ((Wp.bnd w).mono (fun q hq kvs H2 W2 R2 s2 h2 => ?_) fun x st hx => XP.nest R1 hx)
  have R3 := RR.leave R1 R2
  obtain ⟨k3, _⟩ := R2.ke p _ upd_same
  have g2 : W2.g p = none := by
    cases e : W2.g p with
    | none => rfl
    | some u =>
      rcases R2.gr p u e with z | z
      · exact absurd (R.gh.no hp) z
      · have z' : upd H p (.dK []) p = none := z
        rw [upd_same] at z'; cases z'
  have b2 : p ∉ W2.b := fun z => by
    rcases (R2.cg p z).2 with y | y
    · exact hb y
    · have y' : upd H p (.dK []) p = none := y
      rw [upd_same] at y'; cases y'
  refine ⟨(k3 hb).2 (R.gh.no hp), kvs, rfl, ?_, ?_⟩
  · rw [← repK_len h2]
    split at hq
    · assumption
    · exact hq.elim
  · split at hq
    · exact hq p _ W2 (RR.other R3 g2 heD b2 hlD) s2 ⟨g2, heD, b2, ⟨p, _, rfl, upd_same, repK_merge h2 (by simp only [RepK])⟩⟩
    · exact hq.elim
end
section
variable {X : Cx} {E : XK} {pos : Pos} {k v : PySem.Expr} {ks : List (Option PySem.Expr)} {vs : List PySem.Expr} {mk mv : RE → Out (D × RE)} {mr mp : RE → Out (List (Key × D) × RE)}
theorem fm_dnew : FM X E (.Dict [] [] pos) mDnew := ⟨_, pe_dnewK, sndf_dnew⟩
def PrM (X : Cx) (E : XK) (pos : Pos) (ks : List (Option PySem.Expr)) (vs : List PySem.Expr) (m : RE → Out (List (Key × D) × RE)) : Prop := ∃ trs, PPs X pos ks vs trs ∧ SndPr X.kw E trs m
theorem prm_nil : PrM X E pos [] [] mPr0 := ⟨_, pps_nil, sndpr_nil⟩
theorem prm_cons (hk : EM X E k mk) (hv : EM X E v mv) (hr : PrM X E pos ks vs mr) : PrM X E pos (some k :: ks) (v :: vs) (mPr mk mv mr) := let ⟨_, k1, k2⟩ := hk; let ⟨_, v1, v2⟩ := hv; let ⟨_, r1, r2⟩ := hr; ⟨_, pps_cons k1 v1 r1, sndpr_cons k2 v2 r2⟩
theorem fm_disp (h : PrM X E pos ks vs mp) (hall : ks.all (·.isSome) = true := by rfl) (hl : ks.length = vs.length := by rfl) (h0 : ks ≠ [] := by intro z; cases z) (h15 : ks.length ≤ 15 := by decide) : FM X E (.Dict ks vs pos) (mDisp mp) :=
  let ⟨_, h1, h2⟩ := h; ⟨_, pe_disp h1 hall hl h0 h15, sndf_disp h2⟩
end
end Mir
set_option maxHeartbeats 1000000
namespace Mir
open PySem PySem.Spec PyProof.Rows L2
/-! ## == and in, over all data -/
mutual
def toP : D → PyData
  | .non => .none
  | .bl b => .bool b
  | .int i => .int i
  | .str x => .str x
  | .tup ds => .tuple (toPs ds)
  | .lst ds => .list (toPs ds)
  | .frl ds => .list (toPs ds)
  | _ => .dict []
def toPs : List D → List PyData
  | [] => []
  | d :: ds => toP d :: toPs ds
end
section
variable {K : KW} {H : Hp} {W : Wd}
mutual
theorem toP_rep : ∀ {d : D} {v : V}, (toP d).canLay0 = true → RepD K W d v → Dp K W.g v (toP d)
  | .non, v, _, h => by simp only [RepD] at h; subst h; exact .non
  | .bl b, v, _, h => by simp only [RepD] at h; subst h; exact .bl b
  | .int i, v, _, h => by simp only [RepD] at h; subst h; exact .int i
  | .str x, v, _, h => by simp only [RepD] at h; subst h; exact .str x
  | .tup ds, v, c, h => by
    simp only [RepD] at h
    obtain ⟨a, vs, e, q, l⟩ := h
    subst e
    simp only [toP]
    exact .tup (SqT.of q) (toPs_rep (by simpa only [toP, PyData.canLay0] using c) l)
  | .lst ds, v, c, h => by
    simp only [RepD] at h
    obtain ⟨a, vs, e, q, l⟩ := h
    subst e
    simp only [toP]
    exact .lst (SqL.of q) (toPs_rep (by simpa only [toP, PyData.canLay0] using c) l)
  | .frl ds, v, c, h => by
    simp only [RepD] at h
    obtain ⟨a, vs, e, q, l⟩ := h
    subst e
    simp only [toP]
    exact .lst q (toPs_rep (by simpa only [toP, PyData.canLay0] using c) l)
  | .cell n, v, c, _ => by simp only [toP, PyData.canLay0] at c; cases c
  | .lck n, v, c, _ => by simp only [toP, PyData.canLay0] at c; cases c
  | .ty n, v, c, _ => by simp only [toP, PyData.canLay0] at c; cases c
  | .dic n, v, c, _ => by simp only [toP, PyData.canLay0] at c; cases c
  | .dct n, v, c, _ => by simp only [toP, PyData.canLay0] at c; cases c
  | .ins n _, v, c, _ => by simp only [toP, PyData.canLay0] at c; cases c
theorem toPs_rep : ∀ {ds : List D} {vs : List V}, PyData.canLayAll0 (toPs ds) = true → RepL K W ds vs → DpAll K W.g vs (toPs ds)
  | [], vs, _, h => by simp only [RepL] at h; subst h; exact .nil
  | d :: ds, vs, c, h => by
    simp only [RepL] at h
    obtain ⟨v, us, e, q, l⟩ := h
    subst e
    simp only [toPs, PyData.canLayAll0, Bool.and_eq_true] at c
    exact .cons (toP_rep c.1 q) (toPs_rep c.2 l)
end
theorem RepT.flat (s : Sub W.g H) : ∀ {d : D} {v : V}, (toP d).canLay0 = true → RepT K H W d v → RepD K ⟨H, W.b⟩ d v
  | .non, v, _, h => by simpa only [RepT, RepD] using h
  | .bl b, v, _, h => by simpa only [RepT, RepD] using h
  | .int i, v, _, h => by simpa only [RepT, RepD] using h
  | .str x, v, _, h => by simpa only [RepT, RepD] using h
  | .tup ds, v, c, ⟨a, vs, e, q, l⟩ => by simp only [RepD]; exact ⟨a, vs, e, s.tup q, l.mono (W' := ⟨H, W.b⟩) ⟨s, fun _ _ z => z⟩⟩
  | .lst ds, v, c, ⟨a, vs, e, q, l⟩ => by simp only [RepD]; exact ⟨a, vs, e, q, l.mono (W' := ⟨H, W.b⟩) ⟨s, fun _ _ z => z⟩⟩
  | .frl ds, v, c, ⟨a, vs, e, q, l⟩ => by simp only [RepD]; exact ⟨a, vs, e, q, l.mono (W' := ⟨H, W.b⟩) ⟨s, fun _ _ z => z⟩⟩
  | .cell n, v, c, _ => by simp only [toP, PyData.canLay0] at c; cases c
  | .lck n, v, c, _ => by simp only [toP, PyData.canLay0] at c; cases c
  | .ty n, v, c, _ => by simp only [toP, PyData.canLay0] at c; cases c
  | .dic n, v, c, _ => by simp only [toP, PyData.canLay0] at c; cases c
  | .dct n, v, c, _ => by simp only [toP, PyData.canLay0] at c; cases c
  | .ins n _, v, c, _ => by simp only [toP, PyData.canLay0] at c; cases c
theorem shaped_lay {p : PyData} (h : SeqAt.shaped p = true) : p.canLay0 = true := by
  unfold SeqAt.shaped at h
  rw [Bool.and_eq_true] at h
  exact h.1
end
@[simp] def keysD : List D → Option (List Key)
  | [] => some []
  | d :: ds => match keyD d, keysD ds with
    | some k, some ks => some (k :: ks)
    | _, _ => none
/-! a key of any depth -/
mutual
def nkD : D → Option KN.NK
  | .int i => some (.num i)
  | .str x => some (.text x)
  | .tup ds => match nkL ds with
    | some ks => some (.tup ks)
    | none => none
  | _ => none
def nkL : List D → Option (List KN.NK)
  | [] => some []
  | d :: ds => match nkD d, nkL ds with
    | some k, some ks => some (k :: ks)
    | _, _ => none
end
def keyT : D → Option KN.NK
  | .tup ds => match nkL ds with
    | some ks => if (PySem.NestedKey.tup ks).depth ≤ 8 then some (.tup ks) else none
    | none => none
  | _ => none
def isScal : D → Bool
  | .non => true
  | .bl _ => true
  | .int _ => true
  | .str _ => true
  | _ => false
/-- == of scalars -/
def eqS : D → D → Bool
  | .non, .non => true
  | .bl a, .bl b => a == b
  | .bl a, .int b => (if a then 1 else 0) == b
  | .int a, .bl b => a == (if b then 1 else 0)
  | .int a, .int b => a == b
  | .str a, .str b => a == b
  | _, _ => false
/-- whether == is told of these data; what it tells -/
def eqOk (a b : D) : Bool := (match scalD a, scalD b with
  | some x, some y => scal x y
  | _, _ => false) || (SeqAt.shaped (toP a) && SeqAt.shaped (toP b))
def eqD (a b : D) : Bool := match scalD a, scalD b with
  | some x, some y => if scal x y = true then decide (x = y) else PyData.eqv (toP a) (toP b)
  | _, _ => PyData.eqv (toP a) (toP b)
@[simp] def dEq : D → D → Out D := fun a b => if eqOk a b = true then .ok (.bl (eqD a b)) else .stuck
@[simp] def dNe : D → D → Out D := fun a b => if eqOk a b = true then .ok (.bl (!eqD a b)) else .stuck
def inOk (x : D) (ds : List D) : Bool := (isScal x && ds.all isScal) || (SeqAt.shaped (toP x) && SeqAt.shaped (.list (toPs ds)))
def inD (x : D) (ds : List D) : Bool := if (isScal x && ds.all isScal) = true then ds.any (fun y => eqS y x) else (toPs ds).any fun z => PyData.eqv z (toP x)
def hasIn : D → D → Option Bool
  | .str c, .str z => if c.cps.size = 1 then some (decide (c.cps.getD 0 0 ∈ z.cps.toList)) else none
  | x, .lst ds => if inOk x ds = true then some (inD x ds) else none
  | x, .frl ds => if inOk x ds = true then some (inD x ds) else none
  | x, .tup ds => if (isScal x && ds.all isScal) = true then some (ds.any fun y => eqS y x) else none
  | x, .dic kvs => match keyD x with
    | some k => some (valD kvs k).isSome
    | none => if kvs.isEmpty = true ∧ (keyT x).isSome = true then some false else none
  | x, .dct kvs => match keyT x with
    | some k => some (valD kvs k).isSome
    | none => none
  | _, _ => none
@[simp] def dIn : D → D → Out D := fun a b => match hasIn a b with
  | some b => .ok (.bl b)
  | none => .stuck
@[simp] def dNotIn : D → D → Out D := fun a b => match hasIn a b with
  | some b => .ok (.bl (!b))
  | none => .stuck
theorem nx_eq : NoX2 dEq := fun a b x st h => by unfold dEq at h; split at h <;> cases h
theorem nx_ne : NoX2 dNe := fun a b x st h => by unfold dNe at h; split at h <;> cases h
theorem nx_in : NoX2 dIn := fun a b x st h => by unfold dIn at h; split at h <;> cases h
theorem nx_notIn : NoX2 dNotIn := fun a b x st h => by unfold dNotIn at h; split at h <;> cases h
section
variable {K : KW}
theorem eq_cases {H : Hp} {W : Wd} {dx dy : D} {x y : V} (s : Sub W.g H) (hx : RepT K H W dx x) (hy : RepT K H W dy y) (e : eqOk dx dy = true) : (scal x y = true ∧ eqD dx dy = decide (x = y)) ∨ (∃ d e, Dp K H x d ∧ Dp K H y e ∧ SeqAt.shaped d = true ∧ SeqAt.shaped e = true ∧ eqD dx dy = PyData.eqv d e) := by
  by_cases hs : ∃ u v, scalD dx = some u ∧ scalD dy = some v ∧ scal u v = true
  · obtain ⟨u, v, e1, e2, e3⟩ := hs
    have h1 := scalD_rep e1 hx
    have h2 := scalD_rep e2 hy
    subst h1; subst h2
    refine .inl ⟨e3, ?_⟩
    unfold eqD
    rw [e1, e2]
    simp only [e3, if_true]
  · have hsh : SeqAt.shaped (toP dx) = true ∧ SeqAt.shaped (toP dy) = true := by
      unfold eqOk at e
      rw [Bool.or_eq_true] at e
      rcases e with e | e
      · split at e
        · rename_i u v e1 e2
          exact absurd ⟨u, v, e1, e2, e⟩ hs
        · cases e
      · rwa [Bool.and_eq_true] at e
    refine .inr ⟨toP dx, toP dy, toP_rep (W := ⟨H, W.b⟩) (shaped_lay hsh.1) (RepT.flat s (shaped_lay hsh.1) hx), toP_rep (W := ⟨H, W.b⟩) (shaped_lay hsh.2) (RepT.flat s (shaped_lay hsh.2) hy), hsh.1, hsh.2, ?_⟩
    unfold eqD
    split
    · rename_i u v e1 e2
      split
      · rename_i e3
        exact absurd ⟨u, v, e1, e2, e3⟩ hs
      · rfl
    · rfl
theorem ops_eq : OpS K (fun x y H Q => rEq x y H Q ∨ rEqD K x y H Q) dEq := fun x y H W dx dy Q s hx hy d hd k => by
  unfold dEq at hd
  split at hd
  · rename_i e
    cases hd
    rcases eq_cases s hx hy e with ⟨h1, h2⟩ | ⟨d, e, h1, h2, h3, h4, h5⟩
    · exact .inl ⟨h1, by rw [← h2]; exact k _ _ _ (Ext.refl s) repD_bl⟩
    · exact .inr ⟨d, e, h1, h2, h3, h4, by rw [← h5]; exact k _ _ _ (Ext.refl s) repD_bl⟩
  · cases hd
theorem ops_ne : OpS K (fun x y H Q => rNe x y H Q ∨ rNeD K x y H Q) dNe := fun x y H W dx dy Q s hx hy d hd k => by
  unfold dNe at hd
  split at hd
  · rename_i e
    cases hd
    rcases eq_cases s hx hy e with ⟨h1, h2⟩ | ⟨d, e, h1, h2, h3, h4, h5⟩
    · exact .inl ⟨h1, by rw [← h2]; exact k _ _ _ (Ext.refl s) repD_bl⟩
    · exact .inr ⟨d, e, h1, h2, h3, h4, by rw [← h5]; exact k _ _ _ (Ext.refl s) repD_bl⟩
  · cases hd
theorem scal_flat {H : Hp} {W : Wd} {d : D} {v : V} (e : isScal d = true) (h : RepT K H W d v) : flatV v = true := by
  cases d <;> simp only [isScal, reduceCtorEq, Bool.false_eq_true] at e <;> simp only [RepT, RepD] at h <;> subst h <;> rfl
theorem eqS_rep {H : Hp} {W : Wd} {a b : D} {x y : V} (ea : isScal a = true) (eb : isScal b = true) (ha : RepT K H W a x) (hb : RepT K H W b y) : eqV x y = eqS a b := by
  cases a <;> simp only [isScal, reduceCtorEq, Bool.false_eq_true] at ea <;> simp only [RepT, RepD] at ha <;> subst ha <;> cases b <;> simp only [isScal, reduceCtorEq, Bool.false_eq_true] at eb <;> simp only [RepT, RepD] at hb <;> subst hb <;> rfl
theorem scal_all {H : Hp} {W : Wd} (s : Sub W.g H) {x : D} {u : V} (ex : isScal x = true) (hx : RepT K H W x u) : ∀ {ds : List D} {vs : List V}, ds.all isScal = true → RepL K W ds vs → vs.all flatV = true ∧ inV u vs = ds.any fun y => eqS y x
  | [], vs, _, h => by simp only [RepL] at h; subst h; exact ⟨rfl, rfl⟩
  | d :: ds, vs, e, h => by
    simp only [RepL] at h
    obtain ⟨v, us, ev, q, l⟩ := h
    subst ev
    rw [List.all_cons, Bool.and_eq_true] at e
    obtain ⟨h1, h2⟩ := scal_all s ex hx e.2 l
    have q' := RepT.of s q
    refine ⟨by rw [List.all_cons, scal_flat e.1 q', h1]; rfl, ?_⟩
    unfold inV at h2 ⊢
    rw [List.any_cons, List.any_cons, h2, eqS_rep e.1 ex q' hx]
theorem keysD_rep {W : Wd} : ∀ {ds : List D} {ks : List Key} {vs : List V}, keysD ds = some ks → RepL K W ds vs → vs = ks.map kV
  | [], ks, vs, e, h => by cases e; simp only [RepL] at h; exact h
  | d :: ds, ks, vs, e, h => by
    simp only [RepL] at h
    obtain ⟨v, us, rfl, q, t⟩ := h
    simp only [keysD] at e
    cases h1 : keyD d with
    | none => rw [h1] at e; cases e
    | some k =>
      cases h2 : keysD ds with
      | none => rw [h1, h2] at e; cases e
      | some ks' =>
        rw [h1, h2] at e; cases e
        rw [keyD_rep h1 q, keysD_rep h2 t, List.map_cons]
mutual
theorem nkD_rep {W : Wd} : ∀ {d : D} {k : KN.NK} {v : V}, nkD d = some k → RepD K W d v → KN.isN W.g k v
  | .int i, k, v, e, h => by simp only [nkD, Option.some.injEq] at e; subst e; simp only [RepD] at h; simp only [KN.isN]; exact h
  | .str i, k, v, e, h => by simp only [nkD, Option.some.injEq] at e; subst e; simp only [RepD] at h; simp only [KN.isN]; exact h
  | .tup ds, k, v, e, h => by
    simp only [nkD] at e
    split at e
    · rename_i ks hk
      cases e
      simp only [RepD] at h
      obtain ⟨a, vs, rfl, q, t⟩ := h
      simp only [KN.isN]
      exact ⟨a, vs, rfl, q, nkL_rep hk t⟩
    · cases e
  | .non, k, v, e, h => by simp [nkD] at e
  | .bl _, k, v, e, h => by simp [nkD] at e
  | .ty _, k, v, e, h => by simp [nkD] at e
  | .cell _, k, v, e, h => by simp [nkD] at e
  | .lst _, k, v, e, h => by simp [nkD] at e
  | .frl _, k, v, e, h => by simp [nkD] at e
  | .dic _, k, v, e, h => by simp [nkD] at e
  | .dct _, k, v, e, h => by simp [nkD] at e
  | .ins _ _, k, v, e, h => by simp [nkD] at e
  | .lck _, k, v, e, h => by simp [nkD] at e
theorem nkL_rep {W : Wd} : ∀ {ds : List D} {ks : List KN.NK} {vs : List V}, nkL ds = some ks → RepL K W ds vs → KN.isNs W.g ks vs
  | [], ks, vs, e, h => by simp only [nkL, Option.some.injEq] at e; subst e; simp only [RepL] at h; simp only [KN.isNs]; exact h
  | d :: ds, ks, vs, e, h => by
    simp only [nkL] at e
    simp only [RepL] at h
    obtain ⟨v, us, rfl, q, t⟩ := h
    split at e
    · rename_i k1 ks1 h1 h2
      cases e
      simp only [KN.isNs]
      exact ⟨v, us, rfl, nkD_rep h1 q, nkL_rep h2 t⟩
    · cases e
end
theorem keyT_repD {W : Wd} {d : D} {k : KN.NK} {v : V} (e : keyT d = some k) (h : RepD K W d v) : ∃ b, v = .ref b ∧ KN.KeyOk W.g k b := by
  cases d <;> simp only [keyT, reduceCtorEq] at e
  rename_i ds
  cases hk : nkL ds with
  | none => rw [hk] at e; cases e
  | some ks =>
    rw [hk] at e
    simp only at e
    split at e
    · rename_i hd
      cases e
      have h' := h
      simp only [RepD] at h
      obtain ⟨a, vs, rfl, q, t⟩ := h
      exact ⟨a, rfl, nkD_rep (d := .tup ds) (by simp only [nkD, hk]) h', hd⟩
    · cases e
theorem keyT_rep {H : Hp} {W : Wd} {d : D} {k : KN.NK} {v : V} (s : Sub W.g H) (e : keyT d = some k) (h : RepT K H W d v) : ∃ b, v = .ref b ∧ KN.KeyOk H k b := by
  have hd : RepD K W d v := by
    cases d <;> simp only [keyT, reduceCtorEq] at e
    simpa only [RepT, RepD] using h
  obtain ⟨b, rfl, q⟩ := keyT_repD e hd
  exact ⟨b, rfl, q.mono fun _ _ y => s.tup y⟩
theorem keysT_rep {H : Hp} {W : Wd} {ds : List (KN.NK × D)} {es : KN.Ens} (s : Sub W.g H) (h : RepKT K W ds es) : KN.Keys H es := (repT_keys h).mono fun _ _ y => s.tup y
/-- in: what is asked of the values -/
abbrev rHas (K : KW) (x y : V) (H : Hp) (b : Bool) : Prop := (∃ (c : Nat) (z : Str), x = .str ⟨#[c]⟩ ∧ y = .str z ∧ b = decide (c ∈ z.cps.toList)) ∨ ((∃ p xs, y = .ref p ∧ (SqL K H p xs ∨ SqT K H p xs) ∧ flatV x = true ∧ xs.all flatV = true ∧ b = inV x xs) ∨
  ((∃ d ds, Dp K H x d ∧ Dp K H y (.list ds) ∧ SeqAt.shaped d = true ∧ SeqAt.shaped (.list ds) = true ∧ b = ds.any fun z => PyData.eqv z d) ∨ ∃ a o, y = .ref a ∧ KN.DGetA K.w H a x o ∧ b = o.isSome))
theorem has_rep {H : Hp} {W : Wd} {dx dy : D} {x y : V} {b : Bool} (s : Sub W.g H) (hx : RepT K H W dx x) (hy : RepT K H W dy y) (e : hasIn dx dy = some b) : rHas K x y H b := by
  have seq : ∀ (ds : List D) (a : Addr) (vs : List V), SqL K H a vs → RepL K W ds vs → (if inOk dx ds = true then some (inD dx ds) else none) = some b → (∀ c, (PyData.list (toPs ds)).canLay0 = c → c = true → Dp K H (.ref a) (.list (toPs ds))) → rHas K x (.ref a) H b := fun ds a vs hq hl e hd => by
    split at e
    · rename_i hi
      cases e
      by_cases hf : (isScal dx && ds.all isScal) = true
      · have hf' := (Bool.and_eq_true _ _).mp hf
        obtain ⟨h1, h2⟩ := scal_all s hf'.1 hx hf'.2 hl
        refine .inr (.inl ⟨a, vs, rfl, .inl hq, scal_flat hf'.1 hx, h1, ?_⟩)
        unfold inD
        rw [if_pos hf, h2]
      · unfold inOk at hi
        rw [Bool.or_eq_true] at hi
        have hi' := hi.resolve_left hf
        rw [Bool.and_eq_true] at hi'
        refine .inr (.inr (.inl ⟨toP dx, toPs ds, toP_rep (W := ⟨H, W.b⟩) (shaped_lay hi'.1) (RepT.flat s (shaped_lay hi'.1) hx), hd _ rfl (shaped_lay hi'.2), hi'.1, hi'.2, ?_⟩))
        unfold inD
        rw [if_neg hf]
    · cases e
  have lay : ∀ (ds : List D) (a : Addr) (vs : List V), SqL K H a vs → RepL K W ds vs → ∀ c, (PyData.list (toPs ds)).canLay0 = c → c = true → Dp K H (.ref a) (.list (toPs ds)) := fun ds a vs hq hl c hc h1 => by
    subst h1
    simp only [PyData.canLay0] at hc
    exact .lst hq (toPs_rep (W := ⟨H, W.b⟩) hc (hl.mono (W' := ⟨H, W.b⟩) ⟨s, fun _ _ z => z⟩))
  cases dy with
  | str z =>
    cases dx <;> simp only [hasIn, reduceCtorEq] at e
    split at e
    · rename_i hc
      cases e
      exact .inl ⟨_, _, (repT_str hx).trans (congrArg V.str (chr_eta hc)), repT_str hy, rfl⟩
    · cases e
  | lst ds =>
    obtain ⟨a, vs, ea, ha, la⟩ := hy
    subst ea
    exact seq ds a vs (SqL.of ha) la (by cases dx <;> exact e) (lay ds a vs (SqL.of ha) la)
  | frl ds =>
    obtain ⟨a, vs, ea, ha, la⟩ := hy
    subst ea
    exact seq ds a vs ha la (by cases dx <;> exact e) (lay ds a vs ha la)
  | tup ds =>
    obtain ⟨a, vs, ea, ha, la⟩ := hy
    subst ea
    have e' : (if (isScal dx && ds.all isScal) = true then some (ds.any fun y => eqS y dx) else none) = some b := by cases dx <;> exact e
    split at e'
    · rename_i hf
      cases e'
      have hf' := (Bool.and_eq_true _ _).mp hf
      obtain ⟨h1, h2⟩ := scal_all s hf'.1 hx hf'.2 la
      exact .inr (.inl ⟨a, vs, rfl, .inr (SqT.of (s.tup ha)), scal_flat hf'.1 hx, h1, h2.symm⟩)
    · cases e'
  | dic kvs =>
    obtain ⟨a, us, ea, ha, la⟩ := hy
    subst ea
    have e' : (match keyD dx with | some k => some (valD kvs k).isSome | none => if kvs.isEmpty = true ∧ (keyT dx).isSome = true then some false else none) = some b := by cases dx <;> exact e
    cases q : keyD dx with
    | none =>
      rw [q] at e'
      simp only at e'
      split at e'
      · rename_i hz
        cases e'
        obtain ⟨k, ek⟩ := Option.isSome_iff_exists.mp hz.2
        obtain ⟨bb, eb, hb⟩ := keyT_rep s ek hx
        subst eb
        have hk0 : kvs = [] := List.isEmpty_iff.mp hz.1
        subst hk0
        simp only [RepK] at la
        subst la
        exact .inr (.inr (.inr ⟨a, none, rfl, .inr ⟨[], k, bb, .inr ⟨rfl, ha⟩, rfl, hb, (fun p hp => nomatch hp), rfl⟩, rfl⟩))
      · cases e'
    | some k =>
      rw [q] at e'
      have hk := keyD_repT q hx
      subst hk
      refine .inr (.inr (.inr ⟨a, valV us k, rfl, .inl (.inl ⟨us, k, ha, rfl, rfl⟩), ?_⟩))
      cases e'
      rcases repK_val (k := k) la with ⟨h1, h2⟩ | ⟨d, v, h1, h2, _⟩
      · rw [h1, h2]; rfl
      · rw [h1, h2]; rfl
  | dct kvs =>
    obtain ⟨a, us, ea, ha, la⟩ := hy
    subst ea
    have e' : (match keyT dx with | some k => some (valD kvs k).isSome | none => none) = some b := by cases dx <;> exact e
    cases q : keyT dx with
    | none => rw [q] at e'; cases e'
    | some k =>
      rw [q] at e'
      obtain ⟨bb, eb, hb⟩ := keyT_rep s q hx
      subst eb
      refine .inr (.inr (.inr ⟨a, KN.valN us k, rfl, .inr ⟨us, k, bb, .inl ha, rfl, hb, keysT_rep s la, rfl⟩, ?_⟩))
      cases e'
      rcases repT_val (k := k) la with ⟨h1, h2⟩ | ⟨d, v, h1, h2, _⟩
      · rw [h1, h2]; rfl
      · rw [h1, h2]; rfl
  | _ => cases dx <;> cases e
abbrev rInA (K : KW) : R2 := fun x y H Q => ∃ b, rHas K x y H b ∧ Q (.bl b) H
abbrev rNotInA (K : KW) : R2 := fun x y H Q => ∃ b, rHas K x y H b ∧ Q (.bl (!b)) H
theorem ops_in : OpS K (rInA K) dIn := fun x y H W dx dy Q s hx hy d hd k => by
  unfold dIn at hd
  split at hd
  · rename_i b e
    cases hd
    exact ⟨b, has_rep s hx hy e, k _ _ _ (Ext.refl s) repD_bl⟩
  · cases hd
theorem ops_notIn : OpS K (rNotInA K) dNotIn := fun x y H W dx dy Q s hx hy d hd k => by
  unfold dNotIn at hd
  split at hd
  · rename_i b e
    cases hd
    exact ⟨b, has_rep s hx hy e, k _ _ _ (Ext.refl s) repD_bl⟩
  · cases hd
end
section
variable {X : Cx}
theorem or_in (hu : X.A.units + 65 < cLine) : OpR X (compareOp .In) (rInA X.kw) := fun pins s σ H x y v u Q I rx ry h => by
  obtain ⟨b, h, q⟩ := h
  rcases h with ⟨c, z, h1, h2, rfl⟩ | ⟨p, xs, h1, h2, h3, h4, rfl⟩ | ⟨d, ds, h1, h2, h3, h4, rfl⟩ | ⟨a, o, h1, h2, rfl⟩
  · exact op_in_sign pins s σ H x y v u Q I rx ry ⟨c, z, h1, h2, q⟩
  · exact op_in_seq pins s σ H x y v u Q I rx ry ⟨p, xs, h1, h2, h3, h4, q⟩
  · exact op_inD hu pins s σ H x y v u Q I rx ry ⟨d, ds, h1, h2, h3, h4, q⟩
  · subst h1
    cases ry
    exact KN.a_in (by omega) I h2 rx fun s3 I3 => ⟨.bl o.isSome, H, I3, rfl, q⟩
theorem or_notIn (hu : X.A.units + 65 < cLine) : OpR X (compareOp .NotIn) (rNotInA X.kw) := fun pins s σ H x y v u Q I rx ry h => by
  obtain ⟨b, h, q⟩ := h
  rcases h with ⟨c, z, h1, h2, rfl⟩ | ⟨p, xs, h1, h2, h3, h4, rfl⟩ | ⟨d, ds, h1, h2, h3, h4, rfl⟩ | ⟨a, o, h1, h2, rfl⟩
  · exact op_notIn_sign pins s σ H x y v u Q I rx ry ⟨c, z, h1, h2, q⟩
  · exact op_notIn_seq pins s σ H x y v u Q I rx ry ⟨p, xs, h1, h2, h3, h4, q⟩
  · exact op_notInD hu pins s σ H x y v u Q I rx ry ⟨d, ds, h1, h2, h3, h4, q⟩
  · subst h1
    cases ry
    exact KN.a_notIn (by omega) I h2 rx fun s3 I3 => ⟨.bl (!o.isSome), H, I3, rfl, q⟩
theorem room65 {k : Nat} {A : Around} (hr : Room k A) : A.units + 65 < cLine := by
  have := hr.un
  omega
theorem k_in {k : Nat} (hr : Room k X.A) : CmpK X .In dIn := ⟨⟨_, or_in (room65 hr), ops_in⟩, nx_in⟩
theorem k_notIn {k : Nat} (hr : Room k X.A) : CmpK X .NotIn dNotIn := ⟨⟨_, or_notIn (room65 hr), ops_notIn⟩, nx_notIn⟩
end
end Mir
set_option maxHeartbeats 1000000
namespace Mir
open PySem PySem.Spec PyProof.Rows L2
/-! ## dicts: items, get, stores -/
/-- what a dict holds -/
@[simp] def getA : D → D → Option (Option D)
  | .dic kvs, k => match keyD k with
    | some k => some (valD kvs k)
    | none => if kvs.isEmpty = true ∧ (keyT k).isSome = true then some none else none
  | .dct kvs, k => (keyT k).map (valD kvs)
  | _, _ => none
@[simp] def D.dicSz : D → Nat
  | .dic kvs => kvs.length
  | .dct kvs => kvs.length
  | _ => 0
@[simp] def isDic : D → Bool
  | .dic _ => true
  | .dct _ => true
  | _ => false
@[simp] def dIxA : D → D → Out D := fun a b => match a with
  | .dic kvs => match getA (.dic kvs) b with
    | some (some d) => .ok d
    | _ => .stuck
  | .dct kvs => match getA (.dct kvs) b with
    | some (some d) => .ok d
    | _ => .stuck
  | a => dIx a b
theorem nx_ixA : NoX2 dIxA := fun a b x st h => by
  cases a <;> first
    | (simp only [dIxA] at h; split at h <;> cases h; done)
    | exact nx_ix _ b x st (by simpa only [dIxA] using h)
section
variable {K : KW} {E : XK} {c : Fm} {σ σ' : L2.St} {H H' : Hp} {W W' : Wd} {r r' : RE}
abbrev rIxD (w : World) : R2 := fun x y H Q => ∃ a v, x = .ref a ∧ KN.DGetA w H a y (some v) ∧ Q v H
theorem isD_rep {d : D} {x : V} (e : isDic d = true) (hx : RepT K H W d x) : ∃ a, x = .ref a ∧ KN.IsDA K.w H a := by
  cases d <;> simp only [isDic, reduceCtorEq, Bool.false_eq_true] at e
  · obtain ⟨a, us, ea, ha, la⟩ := hx
    exact ⟨a, ea, .inl (.inl ⟨us, ha⟩)⟩
  · obtain ⟨a, us, ea, ha, la⟩ := hx
    exact ⟨a, ea, .inr ⟨us, .inl ha⟩⟩
theorem get_rep {d dk : D} {x y : V} {o : Option D} (s : Sub W.g H) (hx : RepT K H W d x) (hy : RepT K H W dk y) (e : getA d dk = some o) : ∃ a ov, x = .ref a ∧ KN.DGetA K.w H a y ov ∧ ((o = none ∧ ov = none) ∨ ∃ d v, o = some d ∧ ov = some v ∧ RepD K W d v) := by
  cases d <;> simp only [getA, reduceCtorEq, Option.map_eq_some_iff] at e
  · obtain ⟨a, us, ea, ha, la⟩ := hx
    split at e
    · rename_i k ek
      cases e
      have hk := keyD_repT ek hy
      subst hk
      refine ⟨a, valV us k, ea, .inl (.inl ⟨us, k, ha, rfl, rfl⟩), ?_⟩
      rcases repK_val (k := k) la with ⟨h1, h2⟩ | ⟨d', v, h1, h2, h3⟩
      · exact .inl ⟨h1, h2⟩
      · exact .inr ⟨d', v, h1, h2, h3⟩
    · split at e
      · rename_i hz
        cases e
        obtain ⟨k, ek⟩ := Option.isSome_iff_exists.mp hz.2
        obtain ⟨bb, eb, hb⟩ := keyT_rep s ek hy
        subst eb
        have hk0 := List.isEmpty_iff.mp hz.1
        subst hk0
        simp only [RepK] at la
        subst la
        exact ⟨a, none, ea, .inr ⟨[], k, bb, .inr ⟨rfl, ha⟩, rfl, hb, (fun p hp => nomatch hp), rfl⟩, .inl ⟨rfl, rfl⟩⟩
      · cases e
  · obtain ⟨k, ek, rfl⟩ := e
    obtain ⟨a, us, ea, ha, la⟩ := hx
    obtain ⟨b, eb, hb⟩ := keyT_rep s ek hy
    subst eb
    refine ⟨a, KN.valN us k, ea, .inr ⟨us, k, b, .inl ha, rfl, hb, keysT_rep s la, rfl⟩, ?_⟩
    rcases repT_val (k := k) la with ⟨h1, h2⟩ | ⟨d', v, h1, h2, h3⟩
    · exact .inl ⟨h1, h2⟩
    · exact .inr ⟨d', v, h1, h2, h3⟩
theorem ixd_rep {d dk res : D} {x y : V} {Q : VK} (s : Sub W.g H) (hx : RepT K H W d x) (hy : RepT K H W dk y) (e : getA d dk = some (some res)) (k : ∀ v H' W', Ext H W H' W' → RepD K W' res v → Q v H') : rIxD K.w x y H Q := by
  obtain ⟨a, ov, h1, h2, h3⟩ := get_rep s hx hy e
  rcases h3 with ⟨z, _⟩ | ⟨d', v, z, rfl, h4⟩
  · cases z
  · cases z
    exact ⟨a, v, h1, h2, k _ _ _ (Ext.refl s) h4⟩
theorem ops_ixA : OpS K (fun x y H Q => rIxA K x y H Q ∨ rIxD K.w x y H Q) dIxA := fun x y H W dx dy Q s hx hy d hd k => by
  cases dx with
  | dic kvs =>
    simp only [dIxA] at hd
    split at hd
    · rename_i d' e
      cases hd
      exact .inr (ixd_rep s hx hy e k)
    · cases hd
  | dct kvs =>
    simp only [dIxA] at hd
    split at hd
    · rename_i d' e
      cases hd
      exact .inr (ixd_rep s hx hy e k)
    · cases hd
  | _ => exact .inl (ops_ix x y H W _ dy Q s hx hy d (by simpa only [dIxA] using hd) k)
/-- d.get(k), d.get(k, x) -/
@[simp] def mGet (md mk mx : RE → Out (D × RE)) : RE → Out (D × RE) := fun r => (md r).bnd fun x => match dr x.2.st x.1 with
  | some d0 => if isDic d0 = true then (mk x.2).bnd fun y => (mx y.2).bnd fun z => match dr z.2.st x.1, dr z.2.st y.1 with
      | some d, some dk => match getA d dk with
        | some o => .ok (o.getD z.1, z.2)
        | none => .stuck
      | _, _ => .stuck
    else .stuck
  | none => .stuck
theorem snd_get2 {td tk tx : TE} {md mk mx : RE → Out (D × RE)} (hd : Snd K E td md) (hk : Snd K E tk mk) (hx : Snd K E tx mx) : Snd K E (KN.tAGet2 K.w td tk tx) (mGet md mk mx) := fun c σ H W r Q R w => by
  refine hd c σ H W r _ R ((Wp.bnd w).mono (fun p q v1 H1 W1 R1 s1 h1 => ?_) fun _ _ x => x)
  split at q
  · rename_i d0 e0
    split at q
    · rename_i hD
      obtain ⟨a, ea, ha⟩ := isD_rep hD (h1.at R1 e0)
      subst ea
      refine ⟨a, rfl, ha, ?_⟩
      refine hk c σ H1 W1 p.2 _ R1 ((Wp.bnd q).mono (fun p2 q2 v2 H2 W2 R2 s2 h2 => ?_) fun _ _ x => x)
      refine hx c σ H2 W2 p2.2 _ R2 ((Wp.bnd q2).mono (fun p3 q3 v3 H3 W3 R3 s3 h3 => ?_) fun _ _ x => x)
      split at q3
      · rename_i d dk e1 e2
        split at q3
        · rename_i o eo
          have t1 := (h1.mono (s2.trans s3)).at R3 e1
          have t2 := (h2.mono s3).at R3 e2
          obtain ⟨a', ov, ea', hg, hv⟩ := get_rep R3.gh t1 t2 eo
          cases ea'
          refine ⟨ov, hg, ?_⟩
          rcases hv with ⟨rfl, rfl⟩ | ⟨d', v, rfl, rfl, hv⟩
          · exact q3 v3 H3 W3 R3 ((s1.trans s2).trans s3) h3
          · exact q3 v H3 W3 R3 ((s1.trans s2).trans s3) hv
        · exact q3.elim
      · exact q3.elim
    · exact q.elim
  · exact q.elim
theorem snd_get1 {td tk : TE} {md mk : RE → Out (D × RE)} (hd : Snd K E td md) (hk : Snd K E tk mk) : Snd K E (KN.tAGet1 K.w td tk) (mGet md mk (mC .non)) := fun c σ H W r Q R w => by
  have := snd_get2 (K := K) (E := E) hd hk (snd_c (d := .non) (v := .non) fun _ => repD_non) c σ H W r Q R w
  exact this
/-- x[k] = v, x a list or dict that is a cell -/
@[simp] def putA : D → D → D → Out D
  | .dic kvs, k, v => match keyD k with
    | some key => if kvs.length < 1000000 then .ok (.dic (putD kvs key v)) else .stuck
    | none => match kvs, keyT k with
      | [], some key => .ok (.dct [(key, v)])
      | _, _ => .stuck
  | .dct kvs, k, v => match keyT k with
    | some key => if kvs.length < 1000000 then .ok (.dct (putD kvs key v)) else .stuck
    | none => .stuck
  | .lst xs, .int i, v => match ixN xs.length i with
    | some j => .ok (.lst (xs.set j v))
    | none => .stuck
  | _, _, _ => .stuck
theorem nx_put {a b d : D} {x : Exn} {st : Sto} (h : putA a b d = .exc x st) : False := by
  unfold putA at h
  split at h
  · split at h
    · split at h <;> cases h
    · split at h <;> cases h
  · split at h
    · split at h <;> cases h
    · cases h
  · split at h <;> cases h
  · cases h
theorem repL_set : ∀ {ds : List D} {vs : List V} {j : Nat} {d : D} {v : V}, RepL K W ds vs → RepD K W d v → RepL K W (ds.set j d) (vs.set j v)
  | [], vs, j, d, v, h, _ => by simp only [RepL] at h; subst h; simp only [List.set_nil, RepL]
  | x :: ds, vs, 0, d, v, h, hd => by
    simp only [RepL] at h
    obtain ⟨u, us, e, q, l⟩ := h
    subst e
    rw [List.set_cons_zero, List.set_cons_zero]
    simp only [RepL]
    exact ⟨v, us, rfl, hd, l⟩
  | x :: ds, vs, j + 1, d, v, h, hd => by
    simp only [RepL] at h
    obtain ⟨u, us, e, q, l⟩ := h
    subst e
    rw [List.set_cons_succ, List.set_cons_succ]
    simp only [RepL]
    exact ⟨u, _, rfl, q, repL_set l hd⟩
abbrev rSetA (w : World) : TSet := fun o i v H Q => rSetL o i v H Q ∨ KN.rSetDA w o i v H Q
/-- the store itself -/
theorem put_rep {d dk dv d' : D} {a : Addr} {kv v : V} {Q : Hp → Prop} (s : Sub W.g H) (ow : Own K H W d (.ref a)) (hk : RepD K W dk kv) (hv : RepD K W dv v) (e : putA d dk dv = .ok d') (k : ∀ o, Own K (upd H a o) W d' (.ref a) → Q (upd H a o)) : rSetA K.w (.ref a) kv v H Q ∧ isLck d = false := by
  unfold putA at e
  split at e
  · split at e
    · rename_i key ek
      split at e
      · rename_i hz
        cases e
        obtain ⟨b, us, ea, ha, la⟩ := ow
        cases ea
        have hkey := keyD_rep ek hk
        subst hkey
        exact ⟨.inr ⟨a, _, rfl, .inl (.inl ⟨us, key, ha, rfl, lim_lt (by rw [← repK_len la]; exact hz), rfl⟩), k _ ⟨a, _, rfl, upd_same, repK_put hv la⟩⟩, rfl⟩
      · cases e
    · split at e
      · rename_i key ek
        cases e
        obtain ⟨b, us, ea, ha, la⟩ := ow
        cases ea
        simp only [RepK] at la
        subst la
        obtain ⟨kb, eb, hb⟩ := keyT_repD ek hk
        subst eb
        refine ⟨.inr ⟨a, _, rfl, .inr ⟨[], key, kb, .inr ⟨rfl, ha⟩, rfl, hb.mono fun _ _ y => s.tup y, (fun p hp => nomatch hp), by decide, rfl⟩, k _ ⟨a, _, rfl, upd_same, ?_⟩⟩, rfl⟩
        show RepKT K W [(key, dv)] [(key, kb, v)]
        simp only [RepKT]
        exact ⟨kb, v, [], rfl, hb, hv, rfl⟩
      · cases e
  · split at e
    · rename_i key ek
      split at e
      · rename_i hz
        cases e
        obtain ⟨b, us, ea, ha, la⟩ := ow
        cases ea
        obtain ⟨kb, eb, hb⟩ := keyT_repD ek hk
        subst eb
        exact ⟨.inr ⟨a, _, rfl, .inr ⟨us, key, kb, .inl ha, rfl, hb.mono fun _ _ y => s.tup y, keysT_rep s la, lim_lt (by rw [← repT_len la]; exact hz), rfl⟩, k _ ⟨a, _, rfl, upd_same, repT_put hb hv la⟩⟩, rfl⟩
      · cases e
    · cases e
  · rename_i xs i j0
    split at e
    · rename_i j ej
      cases e
      obtain ⟨b, us, ea, ha, la⟩ := ow
      cases ea
      simp only [RepD] at hk
      exact ⟨.inl ⟨a, us, _, j, rfl, hk, ha, by rw [← repL_len la]; exact ej, k _ ⟨a, _, rfl, upd_same, repL_set la hv⟩⟩, rfl⟩
    · cases e
  · cases e
@[simp] def mPut (mo mk mv : RE → Out (D × RE)) : RE → Out Fl := fun r => (mv r).bnd fun v => (mo v.2).bnd fun o => (mk o.2).bnd fun k => match o.1 with
  | .cell i => match k.2.st[i]? with
    | some d => (putA d k.1 v.1).bnd fun d' => .ok (.nx ⟨k.2.s, k.2.st.set i d'⟩)
    | none => .stuck
  | _ => .stuck
theorem snds_put {to tv tk : TE} {mo mv mk : RE → Out (D × RE)} (ho : Snd K E to mo) (hk : Snd K E tk mk) (hv : Snd K E tv mv) : SndS K E (tAsg tv (gSub to tk (rSetA K.w))) (mPut mo mk mv) := fun c σ H W r Dd R w => by
  refine hv c σ H W r _ R ((Wp.bnd w).mono (fun p q v H1 W1 R1 s1 h1 => ?_) fun _ _ x => x)
  refine ho c σ H1 W1 p.2 _ R1 ((Wp.bnd q).mono (fun p2 q2 vo H2 W2 R2 s2 h2 => ?_) fun _ _ x => x)
  refine hk c σ H2 W2 p2.2 _ R2 ((Wp.bnd q2).mono (fun p3 q3 kv H3 W3 R3 s3 h3 => ?_) fun _ _ x => x)
  obtain ⟨od, or'⟩ := p2
  cases od <;> simp only at q3 <;> try exact q3.elim
  rename_i i
  simp only [RepD] at h2
  obtain ⟨a, ha, rfl⟩ := h2
  have ha3 := s3.p i a ha
  split at q3
  · rename_i d e1
    have ow := R3.ce i d a e1 ha3
    cases e : putA d p3.1 p.1 with
    | exc x st => exact (nx_put e).elim
    | stuck => rw [e] at q3; exact q3.elim
    | ok d' =>
      rw [e] at q3
      have nl : isLck d = false := by
        cases d <;> first | rfl | (simp only [putA, reduceCtorEq] at e)
      exact (put_rep R3.gh ow h3 (h1.mono (s2.trans s3)) e fun o own => q3 σ _ W3 (R3.mut e1 ha3 (ow.nofrz nl) own) ((s1.trans s2).trans s3)).1
  · exact q3.elim
/-- d.setdefault(k, x), d a cell -/
@[simp] def setdA : D → D → D → Out (D × Option D)
  | d, k, x => match getA d k with
    | some (some v) => if isLck d = true then .stuck else .ok (v, none)
    | some none => (putA d k x).bnd fun d' => .ok (x, some d')
    | none => .stuck
@[simp] def mSetd (mo mk mx : RE → Out (D × RE)) : RE → Out (D × RE) := fun r => (mo r).bnd fun o => match o.1 with
  | .cell i => match o.2.st[i]? with
    | some d0 => if isDic d0 = true then (mk o.2).bnd fun k => (mx k.2).bnd fun x => match x.2.st[i]? with
      | some d => if d.dicSz < 1000000 then (setdA d k.1 x.1).bnd fun p => match p.2 with
          | none => .ok (p.1, x.2)
          | some d' => .ok (p.1, ⟨x.2.s, x.2.st.set i d'⟩)
        else .stuck
      | none => .stuck
      else .stuck
    | none => .stuck
  | _ => .stuck
/-- x[k] += e of ints, x a list or a dict that is a cell -/
@[simp] def addI : D → D → Out D
  | .int i, .int j => .ok (.int (i + j))
  | _, _ => .stuck
@[simp] def mAugS (mo mk me : RE → Out (D × RE)) : RE → Out Fl := fun r => (mo r).bnd fun o => (mk o.2).bnd fun k => match o.1 with
  | .cell i => match k.2.st[i]?, dr k.2.st k.1 with
    | some d0, some dk => if isLck d0 = true then .stuck else (dIxA d0 dk).bnd fun old => (me k.2).bnd fun e => (addI old e.1).bnd fun new => match e.2.st[i]? with
      | some d => (putA d k.1 new).bnd fun d' => .ok (.nx ⟨e.2.s, e.2.st.set i d'⟩)
      | none => .stuck
    | _, _ => .stuck
  | _ => .stuck
/-- x += e of ints -/
@[simp] def mAug (i : Nat) (f : D → D → Out D) (me : RE → Out (D × RE)) : RE → Out Fl := fun r => match r.s[i]? with
  | some (some d) => (me r).bnd fun e => (f d e.1).bnd fun x => .ok (.nx (e.2.put i (some x)))
  | _ => .stuck
end
theorem PSet.or {X : Cx} {t t' : TSet} (h : PSet X t) (h' : PSet X t') : PSet X (fun o i v H Q => t o i v H Q ∨ t' o i v H Q) := fun pins s σ H o i v ov iv u Q I ro ri rv hq => by
  rcases hq with q | q
  · exact h pins s σ H o i v ov iv u Q I ro ri rv q
  · exact h' pins s σ H o i v ov iv u Q I ro ri rv q
end Mir
set_option maxHeartbeats 1000000
namespace Mir
open PySem PySem.Spec PyProof.Rows L2
/-! ## locks -/
section
variable {K : KW} {E : XK} {c : Fm} {σ σ' : L2.St} {H H' : Hp} {W W' : Wd} {r r' : RE}
abbrev lockIn (c : Fm) (a : Addr) (od : Obj) (u : HO) : Fm := { c with lk := (a, od, u) :: c.lk }
theorem core_dict {od : Obj} {u : HO} (h : isDict u = true) : core (.frz od u) = u := by
  show (if isDict u = true then u else HO.frz od u) = u
  rw [if_pos h]
theorem core_of_dict {u : HO} (h : isDict u = true) : core u = u := by
  cases u <;> first | rfl | cases h
theorem RR.note (R : RR K c σ H W r) {a : Addr} {od : Obj} {u : HO} (hu : H a = some (.frz od u)) : RR K (lockIn c a od u) σ H W r :=
  ⟨R.gh, R.g0, R.gr, R.ke, R.xk, R.len, R.sl, R.cl, R.ce, R.cg, R.cn, fun p hp => (List.mem_cons.mp hp).elim (fun e => e ▸ hu) (R.lk p)⟩
theorem RR.lose {a : Addr} {od : Obj} {u : HO} (R : RR K (lockIn c a od u) σ H W r) : RR K c σ H W r :=
  ⟨R.gh, R.g0, R.gr, R.ke, R.xk, R.len, R.sl, R.cl, R.ce, R.cg, R.cn, fun p hp => R.lk p (List.mem_cons_of_mem _ hp)⟩
/-- a frozen dict is locked or let go -/
theorem RR.flip (R : RR K c σ H W r) {a : Addr} {u o : HO} (hc : core o = core u) (hu : H a = some u) (hg : W.g a ≠ none) (hk : ∀ w, c.He a = some w → ∀ ob v, w = .frz ob v → o = w) (hl : ∀ p ∈ c.lk, p.1 ≠ a) : RR K c σ (upd H a o) W r := by
  have nb : a ∉ W.b := fun z => hg (R.cg a z).1
  have hG0 : c.W0.g a = none → c.He a = none := fun z => by
    cases q : W.g a with
    | none => exact absurd q hg
    | some w =>
      rcases R.gr a w q with y | y
      · exact absurd z y
      · exact y
  refine ⟨fun b w e => ?_, R.g0, R.gr, fun b w e => ?_, fun b hb => ?_, R.len, R.sl, R.cl, fun i d b h1 h2 => (R.ce i d b h1 h2).mono (Le.refl W) (fun x q => ?_), R.cg, R.cn, fun p hp => by rw [upd_ne (hl p hp)]; exact R.lk p hp⟩
  · by_cases z : b = a
    · subst z
      obtain ⟨w', e', q⟩ := R.gh b w e
      rw [hu] at e'; cases e'
      exact ⟨o, upd_same, hc.trans q⟩
    · rw [upd_ne z]; exact R.gh b w e
  · obtain ⟨k0, k2⟩ := R.ke b w e
    by_cases z : b = a
    · subst z
      refine ⟨fun hb => ?_, fun ob v y => by rw [upd_same, hk w e ob v y]⟩
      obtain ⟨⟨w', e', q⟩, _⟩ := k0 hb
      rw [hu] at e'; cases e'
      exact ⟨⟨o, upd_same, hc.trans q⟩, fun y => by rw [hG0 y] at e; cases e⟩
    · rw [upd_ne z]; exact ⟨k0, k2⟩
  · by_cases z : b = a
    · rw [z, upd_same]; simp
    · rw [upd_ne z]; exact R.xk b hb
  · have : b ≠ a := fun z => nb (z ▸ List.mem_iff_getElem?.mpr ⟨i, h2⟩)
    rw [upd_ne this]; exact q
/-- a locked cell is let go -/
theorem RR.unlockC {k : Nat} {a : Addr} {od : Obj} {u : HO} {d : D} (R : RR K (lockIn c a od u) σ H W r) (ha : W.b[k]? = some a) (own : Own K (upd H a u) W d (.ref a)) (hk : ∀ w, c.He a = some w → ∀ ob v, w ≠ .frz ob v) (hl : ∀ p ∈ c.lk, p.1 ≠ a) : RR K c σ (upd H a u) W ⟨r.s, r.st.set k d⟩ := by
  have hm : a ∈ W.b := List.mem_iff_getElem?.mpr ⟨k, ha⟩
  obtain ⟨ga, hx⟩ := R.cg a hm
  have hkl : k < r.st.length := by rw [← R.cl]; exact (List.getElem?_eq_some_iff.mp ha).1
  refine ⟨R.gh.mut ga, R.g0, R.gr, fun b w hb => ?_, fun b hb => ?_, R.len, R.sl, ?_, fun j e b h1 h2 => ?_, R.cg, R.cn, fun p hp => ?_⟩
  · obtain ⟨k0, k2⟩ := R.ke b w hb
    by_cases z : b = a
    · subst z
      refine ⟨fun hn => ?_, fun ob v e => absurd e (hk w hb ob v)⟩
      rcases hx with hx | hx
      · exact absurd hx hn
      · have hb' : c.He b = some w := hb
        rw [show c.He b = none from hx] at hb'; cases hb'
    · rw [upd_ne z]; exact ⟨k0, k2⟩
  · by_cases z : b = a
    · rw [z, upd_same]; simp
    · rw [upd_ne z]; exact R.xk b hb
  · show W.b.length = (r.st.set k d).length
    rw [List.length_set]; exact R.cl
  · have h1' : (r.st.set k d)[j]? = some e := h1
    by_cases hj : k = j
    · subst hj
      rw [List.getElem?_set_self hkl] at h1'
      cases h1'
      rw [ha] at h2; cases h2
      exact own
    · rw [List.getElem?_set_ne hj] at h1'
      have hb : b ≠ a := fun z => by
        subst z
        have q1 := List.getElem?_eq_some_iff.mp ha
        have q2 := List.getElem?_eq_some_iff.mp h2
        exact hj ((List.getElem_inj R.cn).mp (q1.2.trans q2.2.symm))
      exact (R.ce j e b h1' h2).mono (Le.refl W) (fun x q => by rw [upd_ne hb]; exact q)
  · rw [upd_ne (hl p hp)]; exact R.lk p (List.mem_cons_of_mem _ hp)
/-! ## what can be walked while it is locked -/
/-- the object that a content is -/
def Fits (K : KW) (W : Wd) (a : Addr) : D → HO → Prop
  | .lst ds, u => ∃ us, u = .lst us ∧ RepL K W ds us
  | .dic kvs, u => ∃ us, u = .dK us ∧ RepK K W kvs us
  | .dct kvs, u => ∃ us, u = KN.dN K.w a us ∧ RepKT K W kvs us
  | _, _ => False
theorem Own.fits {d : D} {a : Addr} (n : isLck d = false) (hi : ∀ C fs, d ≠ .ins C fs) (h : Own K H W d (.ref a)) : ∃ u, H a = some u ∧ Fits K W a d u ∧ Mut (some u) := by
  unfold Own at h
  split at h
  · obtain ⟨b, us, e, q, r⟩ := h; cases e; exact ⟨_, q, ⟨us, rfl, r⟩, trivial⟩
  · obtain ⟨b, us, e, q, r⟩ := h; cases e; exact ⟨_, q, ⟨us, rfl, r⟩, trivial⟩
  · obtain ⟨b, us, e, q, r⟩ := h; cases e; exact ⟨_, q, ⟨us, rfl, r⟩, trivial⟩
  · exact absurd rfl (hi _ _)
  · cases n
  · cases n
  · cases n
  · exact h.elim
theorem Own.lfits {d : D} {a : Addr} (h : Own K H W (.lck d) (.ref a)) : ∃ u od, H a = some (.frz od u) ∧ Fits K W a d u := by
  cases d <;> simp only [Own] at h <;> try exact h.elim
  · obtain ⟨b, us, o, e, q, r⟩ := h; cases e; exact ⟨_, o, q, ⟨us, rfl, r⟩⟩
  · obtain ⟨b, us, o, e, q, r⟩ := h; cases e; exact ⟨_, o, q, ⟨us, rfl, r⟩⟩
  · obtain ⟨b, us, o, e, q, r⟩ := h; cases e; exact ⟨_, o, q, ⟨us, rfl, r⟩⟩
theorem Fits.own {d : D} {u : HO} {a : Addr} (h : Fits K W a d u) (hH : H a = some u) : Own K H W d (.ref a) := by
  cases d <;> simp only [Fits] at h <;> try exact h.elim
  · obtain ⟨us, rfl, r⟩ := h; exact ⟨a, us, rfl, hH, r⟩
  · obtain ⟨us, rfl, r⟩ := h; exact ⟨a, us, rfl, hH, r⟩
  · obtain ⟨us, rfl, r⟩ := h; exact ⟨a, us, rfl, hH, r⟩
theorem Fits.lown {d : D} {u : HO} {od : Obj} {a : Addr} (h : Fits K W a d u) (hH : H a = some (.frz od u)) : Own K H W (.lck d) (.ref a) := by
  cases d <;> simp only [Fits] at h <;> try exact h.elim
  · obtain ⟨us, rfl, r⟩ := h; exact ⟨a, us, od, rfl, hH, r⟩
  · obtain ⟨us, rfl, r⟩ := h; exact ⟨a, us, od, rfl, hH, r⟩
  · obtain ⟨us, rfl, r⟩ := h; exact ⟨a, us, od, rfl, hH, r⟩
theorem Fits.mono {d : D} {u : HO} {a : Addr} (s : Le W W') (h : Fits K W a d u) : Fits K W' a d u := by
  cases d <;> simp only [Fits] at h ⊢ <;> try exact h.elim
  · obtain ⟨us, e, r⟩ := h; exact ⟨us, e, r.mono s⟩
  · obtain ⟨us, e, r⟩ := h; exact ⟨us, e, r.mono s⟩
  · obtain ⟨us, e, r⟩ := h; exact ⟨us, e, r.mono s⟩
/-- what the turns give -/
def Yields (K : KW) (W : Wd) (ds : List D) (Y : Nat → Hp → V → Hp → Prop) : Prop := ∀ (i : Nat) (H2 : Hp) (W2 : Wd) (x : V) (H3 : Hp), Sub W2.g H2 → Le W W2 → i < ds.length → Y i H2 x H3 → ∃ W3 d, Ext H2 W2 H3 W3 ∧ ds[i]? = some d ∧ RepD K W3 d x
/-- te gives the object at a, whatever else stands in the heap -/
def At (te : TE) (σ : L2.St) (H : Hp) (a : Addr) : Prop := ∀ Q : VK, Q (.ref a) H → te σ H Q
/-- a way of walking: what is walked of a content -/
structure WK (K : KW) (wi : TE → TI) (items : D → Option (List D)) : Prop where
  ni : ∀ C fs, ¬ items (.ins C fs) ≠ none
  /-- locked -/
  lk : ∀ (d : D) (ds : List D) (W : Wd) (u : HO) (a : Addr) (od : Obj), items d = some ds → Fits K W a d u → ∃ (J : It) (Y : Nat → Hp → V → Hp → Prop), (∀ te σ H R, At te σ H a → H a = some (.frz od u) → R J H → wi te σ H R) ∧ Walk J ds.length (fun H => H a = some (.frz od u)) Y ∧ Yields K W ds Y
  /-- frozen: a dict, or a thing that can be walked as it is -/
  fz : ∀ (d : D) (ds : List D) (W : Wd) (v : V), items d = some ds → RepD K W d v → (∃ a u, v = .ref a ∧ Rd W.g a u ∧ isDict u = true ∧ Fits K W a d u) ∨
    ∃ (J : It) (Gp : Hp → Prop) (Y : Nat → Hp → V → Hp → Prop), (∀ te σ H R, Sub W.g H → (∀ Q : VK, Q v H → te σ H Q) → R J H → wi te σ H R) ∧ Walk J ds.length Gp Y ∧ (∀ W2 H2, Le W W2 → Sub W2.g H2 → Gp H2) ∧ Yields K W ds Y
/-- a path: a name, or fields of it -/
def SndPath (K : KW) (te : TE) (m : RE → Out (D × RE)) : Prop := ∀ (c : Fm) (σ : L2.St) (H : Hp) (W : Wd) (r : RE) (d : D) (r' : RE), RR K c σ H W r → m r = .ok (d, r') → r' = r ∧ ∃ v, RepD K W d v ∧ ∀ H' (Q : VK), (∀ p C dx fs, H p = some (.ins C dx fs) → H' p = some (.ins C dx fs)) → Q v H' → te σ H' Q
theorem path_var {i : Nat} : SndPath K (tVar i) (mVar i) := fun c σ H W r d r' R e => by
  unfold mVar at e
  split at e
  · rename_i d0 e0
    cases e
    obtain ⟨v, h1, h2⟩ := R.sl i d e0
    exact ⟨rfl, v, h2, fun H' Q _ q => ⟨v, h1, q⟩⟩
  · cases e
/-- the turns of a loop, from where what is walked has come -/
theorem for_core {J : It} {Gp : Hp → Prop} {Y : Nat → Hp → V → Hp → Prop} {ds : List D} {g : TG} {st : D → RE → Option RE} {ts : TS} {ms : RE → Out Fl} {Dd : Ends} (Pe : Fl → Prop)
    (hg : GS K E g st) (hb : SndS K E ts ms) (R1 : RR K c σ H W r) (wk : Walk J ds.length Gp Y)
    (hG : ∀ (σ2 : L2.St) (H2 : Hp) (W2 : Wd) (r2 : RE), RR K c σ2 H2 W2 r2 → Le W W2 → Gp H2) (hY : Yields K W ds Y)
    (q : Wp (mLoop st ms ds r) Pe (XP K c E)) (hn : ∀ r' σ' H' W', Pe (.nx r') → RR K c σ' H' W' r' → Le W W' → Dd.nx σ' H') (hr : ∀ d r', Pe (.rt d r') → ∀ v σ' H' W', RR K c σ' H' W' r' → Le W W' → RepD K W' d v → Dd.rt v H') :
    ∃ Wt : Nat → Nat → L2.St → Hp → Prop, (∃ m, Wt 0 m σ H) ∧ ∀ i m σ H, Wt i m σ H →
      (J.stop i H ∧ Dd.nx σ H) ∨ (J.go i H ∧ ∃ N : L2.St → Hp → Prop, (∀ σ' H', N σ' H' → ∃ m', m' < m ∧ Wt (i + 1) m' σ' H') ∧ ∀ x H', J.yld i H x H' → g x σ H' fun σ2 H2 => ts { Dd with nx := N, ct := N, bk := Dd.nx } σ2 H2) := by
  refine for_it wk (fun i σ2 H2 => ∃ W2 r2, RR K c σ2 H2 W2 r2 ∧ Le W W2 ∧ Wp (mLoop st ms (ds.drop i) r2) Pe (XP K c E)) ⟨W, r, R1, Le.refl W, by rw [List.drop_zero]; exact q⟩ (fun i σ2 H2 _ ⟨W2, r2, R2, s2, _⟩ => hG σ2 H2 W2 r2 R2 s2) ?_ ?_
  · rintro i x σ2 H2 H3 hlt ⟨W2, r2, R2, s2, q2⟩ y
    obtain ⟨W3, d, x3, e3, h3⟩ := hY i H2 W2 x H3 R2.gh s2 hlt y
    have R3 := R2.ext x3
    have ed : ds.drop i = d :: ds.drop (i + 1) := by
      obtain ⟨hi', he⟩ := List.getElem?_eq_some_iff.mp e3
      rw [← he]
      exact List.drop_eq_getElem_cons hi'
    rw [ed] at q2
    simp only [mLoop] at q2
    cases e4 : st d r2 with
    | none => simp only [e4] at q2; exact q2.elim
    | some r3 =>
      simp only [e4] at q2
      refine hg c x d σ2 H3 W3 r2 r3 _ R3 h3 e4 fun σ3 R4 => ?_
      have s3 : Le W W3 := s2.trans x3.sub
      refine hb c σ3 H3 W3 r3 _ R4 ((Wp.bnd q2).mono (fun f q3 => ?_) fun _ _ x => x)
      cases f with
      | nx r4 => exact fun σ4 H4 W4 R5 s4 => ⟨W4, r4, R5, s3.trans s4, q3⟩
      | ct r4 => exact fun σ4 H4 W4 R5 s4 => ⟨W4, r4, R5, s3.trans s4, q3⟩
      | bk r4 => exact fun σ4 H4 W4 R5 s4 => hn r4 σ4 H4 W4 q3 R5 (s3.trans s4)
      | rt d4 r4 => exact fun v σ4 H4 W4 R5 s4 h4 => hr d4 r4 q3 v σ4 H4 W4 R5 (s3.trans s4) h4
  · rintro σ2 H2 ⟨W2, r2, R2, s2, q2⟩
    rw [List.drop_length] at q2
    exact hn r2 σ2 H2 W2 q2 R2 s2
/-- the cell k is let go behind a statement -/
@[simp] def freeFl (k : Nat) (d : D) : Fl → Fl
  | .nx r => .nx ⟨r.s, r.st.set k d⟩
  | .rt v r => .rt v ⟨r.s, r.st.set k d⟩
  | .bk r => .bk ⟨r.s, r.st.set k d⟩
  | .ct r => .ct ⟨r.s, r.st.set k d⟩
/-- what is walked: the items, and the cell that is locked for it -/
@[simp] def mWalked (items : D → Option (List D)) (r : RE) (d : D) : Option (List D × RE × Option (Nat × D)) := match d with
  | .cell k => match r.st[k]? with
    | some (.lck e) => (items e).map fun ds => (ds, r, none)
    | some e => (items e).map fun ds => (ds, ⟨r.s, r.st.set k (.lck e)⟩, some (k, e))
    | none => none
  | d => (items d).map fun ds => (ds, r, none)
@[simp] def mForW (items : D → Option (List D)) (m : RE → Out (D × RE)) (st : D → RE → Option RE) (b : RE → Out Fl) : RE → Out Fl := fun r => (m r).bnd fun p => match mWalked items p.2 p.1 with
  | some (ds, r', none) => mLoop st b ds r'
  | some (ds, r', some (k, e)) => (mLoop st b ds r').bnd fun f => .ok (freeFl k e f)
  | none => .stuck
def tOrS (t u : TS) : TS := fun D σ H => t D σ H ∨ u D σ H
theorem ps_orS {X : Cx} {s : Stmt} {t u : TS} (h : PS X s t) (k : PS X s u) : PS X s (tOrS t u) := ⟨fun pins s σ H D I q => q.elim (fun q => h.run pins s σ H D I q) (fun q => k.run pins s σ H D I q)⟩
def tOrE (t u : TE) : TE := fun σ H Q => t σ H Q ∨ u σ H Q
theorem pe_orE {X : Cx} {s : PySem.Expr} {t u : TE} (h : PE X s t) (k : PE X s u) : PE X s (tOrE t u) := ⟨fun pins s σ H D I q => q.elim (fun q => h.run pins s σ H D I q) (fun q => k.run pins s σ H D I q)⟩
@[simp] def freeR : Option (Nat × D) → RE → RE
  | some (k, e), r => ⟨r.s, r.st.set k e⟩
  | none, r => r
/-- the three ways in which a thing is walked -/
inductive How (K : KW) (c : Fm) (wi : TE → TI) (te : TE) (σ : L2.St) (H : Hp) (W : Wd) (r : RE) (ds : List D) (r1 : RE) : Option (Nat × D) → Prop
  /-- as it is -/
  | plain {J : It} {Gp : Hp → Prop} {Y : Nat → Hp → V → Hp → Prop} {c' : Fm} (R1 : RR K c' σ H W r1) (hc : ∀ {σ2 H2 W2 r2}, RR K c' σ2 H2 W2 r2 → RR K c σ2 H2 W2 r2) (hx : ∀ {E x st}, XP K c E x st → XP K c' E x st) (go : ∀ R, R J H → wi te σ H R) (wk : Walk J ds.length Gp Y)
      (hG : ∀ (σ2 : L2.St) (H2 : Hp) (W2 : Wd) (r2 : RE), RR K c' σ2 H2 W2 r2 → Le W W2 → Gp H2) (hY : Yields K W ds Y) : How K c wi te σ H W r ds r1 none
  /-- it is locked for the while -/
  | lock {a : Addr} {u : HO} {o : Option (Nat × D)} (hH : H a = some u) (mu : Mut (some u)) (go : ∀ od, ∃ (J : It) (Gp : Hp → Prop) (Y : Nat → Hp → V → Hp → Prop), RR K (lockIn c a od u) σ (upd H a (.frz od u)) W r1 ∧ (∀ {E x st}, XP K c E x st → XP K (lockIn c a od u) E x st) ∧
      (∀ R, R J (upd H a (.frz od u)) → wi te σ (upd H a (.frz od u)) R) ∧ Walk J ds.length Gp Y ∧ (∀ (σ2 : L2.St) (H2 : Hp) (W2 : Wd) (r2 : RE), RR K (lockIn c a od u) σ2 H2 W2 r2 → Le W W2 → Gp H2) ∧ Yields K W ds Y)
      (back : ∀ od {σ2 H2 W2 r2}, RR K (lockIn c a od u) σ2 H2 W2 r2 → Le W W2 → H2 a = some (.frz od u) ∧ RR K c σ2 (upd H2 a u) W2 (freeR o r2)) : How K c wi te σ H W r ds r1 o
theorem how {wi : TE → TI} {items : D → Option (List D)} {te : TE} {m : RE → Out (D × RE)} (wk : WK K wi items) (hp : SndPath K te m) (R : RR K c σ H W r) {d : D} {r0 r1 : RE} {ds : List D} {o : Option (Nat × D)} (e : m r = .ok (d, r0)) (ew : mWalked items r0 d = some (ds, r1, o)) : How K c wi te σ H W r ds r1 o := by
  obtain ⟨rfl, v, hv, hat⟩ := hp c σ H W r d r0 R e
  have lose : ∀ {a : Addr} {od : Obj} {u : HO} {E : XK} {x : Exn} {st : Sto}, XP K c E x st → XP K (lockIn c a od u) E x st := fun h dx H' W' us R' hx rf => h dx H' W' us R'.lose hx rf
  have keep : ∀ {a : Addr} {u : HO} {od : Obj}, H a = some u → (∀ C dx fs, u ≠ .ins C dx fs) → ∀ p C dx fs, H p = some (.ins C dx fs) → upd H a (.frz od u) p = some (.ins C dx fs) := fun hH hu p C dx fs z => by
    rw [upd_ne (fun y => hu C dx fs (by rw [y, hH] at z; exact Option.some.inj z))]; exact z
  have frozen : (d ≠ .cell 0 → ∀ k, d ≠ .cell k) → items d = some ds → r1 = r0 → o = none → How K c wi te σ H W r0 ds r1 o := fun _ hi e1 e2 => by
    subst e1; subst e2
    rcases wk.fz d ds W v hi hv with ⟨a, u, rfl, hu, hd, hf⟩ | ⟨J, Gp, Y, go, w1, hG, hY⟩
    · have hga : W.g a ≠ none := by rcases hu with h | ⟨o, h⟩ <;> rw [h] <;> simp
      have hH : Rd H a u := by
        cases u <;> simp only [isDict, reduceCtorEq, Bool.false_eq_true] at hd
        · exact R.gh.rd_dK hu
        · exact R.gh.rd_dT hu
        · exact R.gh.rd_ext hu
      have hni : ∀ C dx fs, u ≠ .ins C dx fs := fun C dx fs z => by subst z; cases hd
      rcases hH with hH | ⟨od, hH⟩
      · have hl : ∀ p ∈ c.lk, p.1 ≠ a := fun p hp' z => by
          have := R.lk p hp'
          rw [z, hH] at this; cases this; cases hd
        have hk : ∀ w, c.He a = some w → ∀ ob v, w ≠ .frz ob v := fun w e ob v z => by
          have := (R.ke a w e).2 ob v z
          rw [hH] at this; subst z; cases this; cases hd
        refine .lock (o := none) hH (by cases u <;> first | trivial | cases hd) (fun od => ?_) fun od {σ2 H2 W2 r2} R2 s2 => ?_
        · obtain ⟨J, Y, go, w1, hY⟩ := wk.lk d ds W u a od hi hf
          refine ⟨J, _, Y, (R.flip (o := .frz od u) (by rw [core_dict hd, core_of_dict hd]) hH hga (fun w e ob v z => absurd z (hk w e ob v)) hl).note upd_same, lose, fun Rr q => go te σ _ Rr (fun Q z => hat _ Q (keep hH hni) z) upd_same q, w1, fun σ2 H2 W2 r2 R2 _ => R2.lk (a, od, u) List.mem_cons_self, hY⟩
        · have hH2 : H2 a = some (.frz od u) := R2.lk (a, od, u) List.mem_cons_self
          have hg2 : W2.g a ≠ none := by
            cases q : W.g a with
            | none => exact absurd q hga
            | some w => exact s2.s.is q
          exact ⟨hH2, R2.lose.flip (by rw [core_dict hd, core_of_dict hd]) hH2 hg2 (fun w e ob v z => absurd z (hk w e ob v)) hl⟩
      · obtain ⟨J, Y, go, w1, hY⟩ := wk.lk d ds W u a od hi hf
        exact .plain (c' := lockIn c a od u) (R.note hH) (fun R2 => R2.lose) lose (fun Rr q => go te σ H Rr (fun Q z => hat H Q (fun _ _ _ _ z => z) z) hH q) w1 (fun σ2 H2 W2 r2 R2 _ => R2.lk (a, od, u) List.mem_cons_self) hY
    · exact .plain (c' := c) R (fun R2 => R2) (fun h => h) (fun Rr q => go te σ H Rr R.gh (fun Q z => hat H Q (fun _ _ _ _ z => z) z) q) w1 (fun σ2 H2 W2 r2 R2 s2 => hG W2 H2 s2 R2.gh) hY
  cases d with
  | cell k =>
    simp only [RepD] at hv
    obtain ⟨a, ha, rfl⟩ := hv
    have hk : k < r0.st.length := by rw [← R.cl]; exact (List.getElem?_eq_some_iff.mp ha).1
    have hs : r0.st[k]? = some r0.st[k] := List.getElem?_eq_getElem hk
    generalize r0.st[k] = cd at hs
    simp only [mWalked, hs] at ew
    have own := R.ce k cd a hs ha
    by_cases hlk : ∃ e, cd = .lck e
    · obtain ⟨e', rfl⟩ := hlk
      simp only [Option.map_eq_some_iff] at ew
      obtain ⟨ds', hi, e2⟩ := ew
      cases e2
      obtain ⟨u, od, hH, hf⟩ := own.lfits
      obtain ⟨J, Y, go, w1, hY⟩ := wk.lk e' ds W u a od hi hf
      exact .plain (c' := lockIn c a od u) (R.note hH) (fun R2 => R2.lose) lose (fun Rr q => go te σ H Rr (fun Q z => hat H Q (fun _ _ _ _ z => z) z) hH q) w1 (fun σ2 H2 W2 r2 R2 _ => R2.lk (a, od, u) List.mem_cons_self) hY
    · have hnl : isLck cd = false := by
        cases cd <;> first | rfl | exact absurd ⟨_, rfl⟩ hlk
      have ew' : (items cd).map (fun ds => (ds, (⟨r0.s, r0.st.set k (.lck cd)⟩ : RE), some (k, cd))) = some (ds, r1, o) := by
        cases cd <;> first | exact ew | exact absurd ⟨_, rfl⟩ hlk
      simp only [Option.map_eq_some_iff] at ew'
      obtain ⟨ds', hi, e2⟩ := ew'
      cases e2
      by_cases hins : ∃ C fs, cd = .ins C fs
      · obtain ⟨C, fs, rfl⟩ := hins
        exfalso
        exact wk.ni C fs (by rw [hi]; simp)
      · obtain ⟨u, hH, hf, mu⟩ := own.fits hnl (fun C fs z => hins ⟨C, fs, z⟩)
        have hni : ∀ C dx fs, u ≠ .ins C dx fs := fun C dx fs z => by
          subst z
          cases cd <;> simp only [Fits] at hf <;> first | exact hf | (obtain ⟨us, e, _⟩ := hf; cases e)
        have hnf := own.nofrz hnl
        have hl : ∀ p ∈ c.lk, p.1 ≠ a := fun p hp' z => hnf _ _ (z ▸ R.lk p hp')
        have hk2 : ∀ w, c.He a = some w → ∀ ob v, w ≠ .frz ob v := fun w e ob v z => hnf ob v (by rw [← z]; exact (R.ke a w e).2 ob v z)
        refine .lock (o := some (k, cd)) hH mu (fun od => ?_) fun od {σ2 H2 W2 r2} R2 s2 => ?_
        · obtain ⟨J, Y, go, w1, hY⟩ := wk.lk cd ds W u a od hi hf
          exact ⟨J, _, Y, (R.mut hs ha hnf (hf.lown upd_same)).note upd_same, lose, fun Rr q => go te σ _ Rr (fun Q z => hat _ Q (keep hH hni) z) upd_same q, w1, fun σ2 H2 W2 r2 R2 _ => R2.lk (a, od, u) List.mem_cons_self, hY⟩
        · exact ⟨R2.lk (a, od, u) List.mem_cons_self, R2.unlockC (s2.p k a ha) ((hf.mono s2).own upd_same) hk2 hl⟩
  | _ => simp only [mWalked, Option.map_eq_some_iff] at ew; obtain ⟨ds', hi, e2⟩ := ew; cases e2; exact frozen (fun _ k z => by cases z) hi rfl rfl
end
end Mir
set_option maxHeartbeats 1000000
namespace Mir
open PySem PySem.Spec PyProof.Rows L2
section
variable {K : KW} {E : XK} {c : Fm} {σ σ' : L2.St} {H H' : Hp} {W W' : Wd} {r r' : RE}
@[simp] def freeF : Option (Nat × D) → Fl → Fl
  | some (k, e), f => freeFl k e f
  | none, f => f
theorem freeFl_P {Dd : Ends} {a : Addr} {od : Obj} {u : HO} {o : Option (Nat × D)} (back : ∀ {σ2 H2 W2 r2}, RR K (lockIn c a od u) σ2 H2 W2 r2 → Le W W2 → H2 a = some (.frz od u) ∧ RR K c σ2 (upd H2 a u) W2 (freeR o r2))
    {f : Fl} (q : FlP K c W Dd (freeF o f)) : FlP K (lockIn c a od u) W ⟨fun σ' H' => H' a = some (.frz od u) ∧ Dd.nx σ' (upd H' a u), fun v H' => H' a = some (.frz od u) ∧ Dd.rt v (upd H' a u), fun σ' H' => H' a = some (.frz od u) ∧ Dd.bk σ' (upd H' a u), fun σ' H' => H' a = some (.frz od u) ∧ Dd.ct σ' (upd H' a u)⟩ f := by
  cases f with
  | nx r2 => exact fun σ2 H2 W2 R2 s2 => ⟨(back R2 s2).1, by cases o with | none => exact q σ2 _ W2 (back R2 s2).2 s2 | some p => exact q σ2 _ W2 (back R2 s2).2 s2⟩
  | rt d r2 => exact fun v σ2 H2 W2 R2 s2 hv => ⟨(back R2 s2).1, by cases o with | none => exact q v σ2 _ W2 (back R2 s2).2 s2 hv | some p => exact q v σ2 _ W2 (back R2 s2).2 s2 hv⟩
  | bk r2 => exact fun σ2 H2 W2 R2 s2 => ⟨(back R2 s2).1, by cases o with | none => exact q σ2 _ W2 (back R2 s2).2 s2 | some p => exact q σ2 _ W2 (back R2 s2).2 s2⟩
  | ct r2 => exact fun σ2 H2 W2 R2 s2 => ⟨(back R2 s2).1, by cases o with | none => exact q σ2 _ W2 (back R2 s2).2 s2 | some p => exact q σ2 _ W2 (back R2 s2).2 s2⟩
theorem snds_forW {wi : TE → TI} {items : D → Option (List D)} {te : TE} {m : RE → Out (D × RE)} {g : TG} {st : D → RE → Option RE} {ts : TS} {ms : RE → Out Fl} (wk : WK K wi items) (hp : SndPath K te m) (nx : ∀ r x s, m r ≠ .exc x s) (hg : GS K E g st) (hb : SndS K E ts ms) :
    SndS K E (tOrS (tLock (tFor (wi te) g ts)) (tFor (wi te) g ts)) (mForW items m st ms) := fun c σ H W r Dd R w => by
  unfold mForW at w
  cases e : m r with
  | exc x s0 => exact absurd e (nx _ _ _)
  | stuck => rw [e] at w; exact w.elim
  | ok p =>
    obtain ⟨d, r0⟩ := p
    rw [e, bnd_ok] at w
    cases ew : mWalked items r0 d with
    | none => simp only [ew] at w; exact w.elim
    | some t =>
      obtain ⟨ds, r1, o⟩ := t
      have hw := how wk hp R e ew
      have q : Wp (mLoop st ms ds r1) (fun f => FlP K c W Dd (freeF o f)) (XP K c E) := by
        cases o with
        | none => simp only [ew] at w; exact w
        | some p =>
          obtain ⟨k, d0⟩ := p
          simp only [ew] at w
          exact (Wp.bnd w).mono (fun f z => z) fun _ _ x => x
      cases hw with
      | plain R1 hc hx go w1 hG hY =>
        refine .inr (go _ ?_)
        refine for_core (fun f => FlP K c W Dd f) hg hb R1 w1 hG hY (q.mono (fun f z => z) fun _ _ x => hx x) (fun r' σ' H' W' z R2 s2 => z σ' H' W' (hc R2) s2) fun d r' z v σ' H' W' R2 s2 hv => z v σ' H' W' (hc R2) s2 hv
      | lock hH mu go back =>
        refine .inl ⟨_, _, hH, mu, fun od => ?_⟩
        obtain ⟨J, Gp, Y, R1, hx, go', w1, hG, hY⟩ := go od
        refine go' _ ?_
        refine for_core (fun f => FlP K (lockIn c _ od _) W _ f) hg hb R1 w1 hG hY (q.mono (fun f z => freeFl_P (fun {_ _ _ _} R2 s2 => back od R2 s2) z) fun _ _ x => hx x) (fun r' σ' H' W' z R2 s2 => z σ' H' W' R2 s2) fun d r' z v σ' H' W' R2 s2 hv => z v σ' H' W' R2 s2 hv
/-! ## comprehensions over what is walked so -/
@[simp] def mCompW (items : D → Option (List D)) (vs : List Nat) (m : RE → Out (D × RE)) (st : D → RE → Option RE) (mt : RE → Out (Bool × RE)) (me : RE → Out (D × RE)) : RE → Out (D × RE) := fun r => (m r).bnd fun p => match mWalked items p.2 p.1 with
  | some (ds, r', none) => (mCompL (wipeL r'.s vs) st mt me ds r'.st []).bnd fun q => .ok (.lst q.1, ⟨r'.s, q.2⟩)
  | some (ds, r', some (k, e)) => (mCompL (wipeL r'.s vs) st mt me ds r'.st []).bnd fun q => .ok (.lst q.1, ⟨r'.s, q.2.set k e⟩)
  | none => .stuck
theorem Fresh.flip {a p : Addr} {u : HO} {d : D} (f : Fresh K c H W d p) (hp : p ≠ a) : Fresh K c (upd H a u) W d p := ⟨f.g, f.e, f.n, f.o.mono (Le.refl W) (fun x q => by rw [upd_ne hp]; exact q)⟩
theorem sndf_compW {wi : TE → TI} {items : D → Option (List D)} {ti : TE} {m : RE → Out (D × RE)} {g : TG} {tt : TT} {te : TE} {vs : List Nat} {st : D → RE → Option RE} {mt : RE → Out (Bool × RE)} {me : RE → Out (D × RE)} (wk : WK K wi items) (hp : SndPath K ti m) (nx : ∀ r x s, m r ≠ .exc x s)
    (hgv : GV g vs) (hg : GS K E g st) (ht : SndT K E tt mt) (he : Snd K E te me) : SndF K E (tOrE (tLockE (tLc (wi ti) g tt te vs)) (tLc (wi ti) g tt te vs)) (mCompW items vs m st mt me) := fun c σ H W r Q R w => by
  unfold mCompW at w
  cases e : m r with
  | exc x s0 => exact absurd e (nx _ _ _)
  | stuck => rw [e] at w; exact w.elim
  | ok p =>
    obtain ⟨d, r0⟩ := p
    rw [e, bnd_ok] at w
    cases ew : mWalked items r0 d with
    | none => simp only [ew] at w; exact w.elim
    | some t =>
      obtain ⟨ds, r1, o⟩ := t
      have hw := how wk hp R e ew
      have q : Wp (mCompL (wipeL r1.s vs) st mt me ds r1.st []) (fun q => ∀ a H' W', RR K c σ H' W' (freeR o ⟨r1.s, q.2⟩) → Le W W' → Fresh K c H' W' (.lst q.1) a → Q (.ref a) H') (XP K c E) := by
        cases o with
        | none => simp only [ew] at w; exact (Wp.bnd w).mono (fun f z => z) fun _ _ x => x
        | some p =>
          obtain ⟨k, d0⟩ := p
          simp only [ew] at w
          exact (Wp.bnd w).mono (fun f z => z) fun _ _ x => x
      cases hw with
      | plain R1 hc hx go w1 hG hY =>
        refine .inr (go _ fun Dn hDn => ?_)
        exact comp_core (Qd := fun H' => Q (.ref Dn) H') hgv hg ht he R1 w1 hG hY hDn (q.mono (fun q2 z H' W' R2 s2 f => z Dn H' W' (hc R2) s2 ⟨f.g, R.heNone hDn, f.n, f.o⟩) fun _ _ x => hx x)
      | lock hH mu go back =>
        refine .inl ⟨_, _, hH, mu, fun od => ?_⟩
        obtain ⟨J, Gp, Y, R1, hx, go', w1, hG, hY⟩ := go od
        refine go' _ fun Dn hDn => ?_
        refine comp_core (Qd := fun H' => H' _ = some (.frz od _) ∧ Q (.ref Dn) (upd H' _ _)) hgv hg ht he R1 w1 hG hY hDn (q.mono (fun q2 z H' W' R2 s2 f => ?_) fun _ _ x => hx x)
        obtain ⟨b1, b2⟩ := back od R2 s2
        refine ⟨b1, z Dn _ W' (by cases o <;> exact b2) s2 ((show Fresh K c H' W' (.lst q2.1) Dn from ⟨f.g, f.e, f.n, f.o⟩).flip ?_)⟩
        intro y
        rw [y, upd_same] at hDn
        cases hDn
end
end Mir
set_option maxHeartbeats 1000000
namespace Mir
open PySem PySem.Spec PyProof.Rows L2
/-! from M14 -/
section
variable {K : KW} {E : XK} {c : Fm} {σ σ' : L2.St} {H H' : Hp} {W W' : Wd} {r r' : RE}
/-- a new pair -/
theorem pair_new {H2 : Hp} {W2 : Wd} (s : Sub W2.g H2) {T : Addr} {x y : V} {dx dy : D} (hT : H2 T = none) (hx : RepD K W2 dx x) (hy : RepD K W2 dy y) :
    ∃ W3, Ext H2 W2 (upd H2 T (.tup [x, y])) W3 ∧ RepD K W3 (.tup [dx, dy]) (.ref T) := by
  have ex := Ext.alloc s (p := T) (o := .tup [x, y]) hT
  refine ⟨_, ex, ?_⟩
  simp only [RepD, RepL]
  exact ⟨T, [x, y], rfl, upd_same, x, [y], rfl, hx.mono ex.sub, y, [], rfl, hy.mono ex.sub, rfl⟩
@[simp] def kvPair : Key × D → D := fun kv => .tup [ofKey kv.1, kv.2]
@[simp] def kvVal : Key × D → D := fun kv => kv.2
@[simp] def kvKey : Key × D → D := fun kv => ofKey kv.1
def enumD (s : Nat) : List D → List D
  | [] => []
  | d :: ds => .tup [.int (s : Int), d] :: enumD (s + 1) ds
theorem enumD_len : ∀ {s : Nat} {ds : List D}, (enumD s ds).length = ds.length
  | s, [] => rfl
  | s, d :: ds => by simp only [enumD, List.length_cons, enumD_len (s := s + 1) (ds := ds)]
theorem enumD_get : ∀ {s : Nat} {ds : List D} {j : Nat} {d : D}, ds[j]? = some d → (enumD s ds)[j]? = some (.tup [.int ((s + j : Nat) : Int), d])
  | s, [], j, d, h => by simp at h
  | s, e :: ds, 0, d, h => by simp at h; subst h; rfl
  | s, e :: ds, j + 1, d, h => by
    simp at h
    have := enumD_get (s := s + 1) h
    simp only [enumD, List.getElem?_cons_succ, this]
    rw [show s + 1 + j = s + (j + 1) by omega]
end
/-! from M16 -/
section
variable {X : Cx} {E : XK} {a b c e : PySem.Expr} {es : List PySem.Expr} {pos p : Pos} {x : Str}
variable {ma mb m oa ob oc : RE → Out (D × RE)} {mt mu : RE → Out (Bool × RE)} {as_ : RE → Out (List D × RE)} {ms mz : RE → Out Fl}
/-! code that no run comes to -/
def mNoS : RE → Out Fl := fun _ => .stuck
theorem sm_no {s : PySem.Stmt} : SM X E s mNoS := ⟨fun _ _ _ => False, ⟨fun _ _ _ _ _ _ h => h.elim⟩, fun _ _ _ _ _ _ _ w => w.elim⟩
/-! several targets -/
def GVs (g : TGs) (vs : List Nat) : Prop := ∀ (v : List V) (σ : L2.St) (H : Hp) (Q Q' : L2.St → Hp → Prop), (∀ σ' H', Q σ' H' → L2.wipe σ' vs = L2.wipe σ vs → Q' σ' H') → g v σ H Q → g v σ H Q'
def GMs (X : Cx) (E : XK) (tg : List PySem.Expr) (st : List D → RE → Option RE) (vs : List Nat) : Prop := ∃ g, PGs X tg g ∧ GSs X.kw E g st ∧ GVs g vs
theorem wipe_set : ∀ {vs : List Nat} {i : Nat} {σ : L2.St}, (L2.wipe σ vs).set i none = L2.wipe (σ.set i none) vs
  | [], i, σ => rfl
  | j :: vs, i, σ => by
    show ((L2.wipe σ vs).set j none).set i none = (L2.wipe (σ.set i none) vs).set j none
    rw [← wipe_set (vs := vs) (i := i)]
    by_cases z : i = j
    · subst z; rfl
    · rw [List.set_comm _ _ (fun h => z h.symm)]
theorem gms_nil : GMs X E [] stNil [] := ⟨_, pgs_nil, gss_nil, fun v σ H Q Q' h k => ⟨k.1, h _ _ k.2 rfl⟩⟩
theorem gms_name (i : Nat) {tgs : List PySem.Expr} {st : List D → RE → Option RE} {vs : List Nat} {tg : PySem.Expr} (h : GM X E tg (stName i) [i]) (k : GMs X E tgs st vs) (hs : (assignEach (tg :: tgs) X.env).map (·.2) = assign tg X.env :: (assignEach tgs X.env).map (·.2) := by rfl) : GMs X E (tg :: tgs) (stCons (stName i) st) (i :: vs) := by
  obtain ⟨g, h1, h2, h3⟩ := h
  obtain ⟨gs, k1, k2, k3⟩ := k
  refine ⟨_, pgs_cons h1 k1 hs, gss_cons h2 k2, fun v σ H Q Q' h q => ?_⟩
  obtain ⟨v0, vr, e, q⟩ := q
  refine ⟨v0, vr, e, h3 v0 σ H _ _ (fun σ1 H1 q1 w1 => k3 vr σ1 H1 _ _ (fun σ2 H2 q2 w2 => h σ2 H2 q2 ?_) q1) q⟩
  show (L2.wipe σ2 vs).set i none = (L2.wipe σ vs).set i none
  rw [w2, wipe_set, wipe_set]
  exact congrArg (fun z => L2.wipe z vs) w1
/-! max, min of two -/
@[simp] def dMax2 : D → D → Out D
  | .int i, .int j => .ok (.int (if j > i then j else i))
  | _, _ => .stuck
@[simp] def dMin2 : D → D → Out D
  | .int i, .int j => .ok (.int (if j < i then j else i))
  | _, _ => .stuck
theorem nx_max2 : NoX2 dMax2 := fun a b x st h => by cases a <;> (try cases h) <;> cases b <;> cases h
theorem nx_min2 : NoX2 dMin2 := fun a b x st h => by cases a <;> (try cases h) <;> cases b <;> cases h
theorem calls_max2 {K : KW} : CallS K (fun xs H Q => ∃ i j, xs = [.int i, .int j] ∧ Q (.int (if j > i then j else i)) H) (d2 dMax2) := calls_2 fun x y H W dx dy Q s hx hy d hd k => by
  cases dx <;> (try cases hd) <;> cases dy <;> (try cases hd)
  rename_i i j
  simp only [RepT, RepD] at hx hy
  exact ⟨i, j, by rw [hx, hy], k _ _ _ (Ext.refl s) (by simp only [RepD])⟩
theorem calls_min2 {K : KW} : CallS K (fun xs H Q => ∃ i j, xs = [.int i, .int j] ∧ Q (.int (if j < i then j else i)) H) (d2 dMin2) := calls_2 fun x y H W dx dy Q s hx hy d hd k => by
  cases dx <;> (try cases hd) <;> cases dy <;> (try cases hd)
  rename_i i j
  simp only [RepT, RepD] at hx hy
  exact ⟨i, j, by rw [hx, hy], k _ _ _ (Ext.refl s) (by simp only [RepD])⟩
theorem em_max2 (hm : X.mg "max" = none) (h : EM X E a oa) (k : EM X E b ob) (hc : X.calm = true := by rfl) (hg : Gl X "max" := by rfl) (hs2 : starEach [b] X.env = (false, eval b X.env) :: starEach [] X.env := by rfl) (hs : starEach [a, b] X.env = (false, eval a X.env) :: starEach [b] X.env := by rfl) (hpl : (backTo pos (starEach [b] X.env)).any (·.1) = false := by rfl) :
    EM X E (.Call (.Name "max" p) [a, b] [] pos) (mArgs (d2 dMax2) (mCons oa (mCons ob mNil))) := em_cb (call_max2 hc) calls_max2 (nox_d2 nx_max2) hm (by decide +kernel) (am_cons h (am_cons k am_nil hs2) hs) hg (by decide) (by decide) hs hpl
theorem em_min2 (hm : X.mg "min" = none) (h : EM X E a oa) (k : EM X E b ob) (hc : X.calm = true := by rfl) (hg : Gl X "min" := by rfl) (hs2 : starEach [b] X.env = (false, eval b X.env) :: starEach [] X.env := by rfl) (hs : starEach [a, b] X.env = (false, eval a X.env) :: starEach [b] X.env := by rfl) (hpl : (backTo pos (starEach [b] X.env)).any (·.1) = false := by rfl) :
    EM X E (.Call (.Name "min" p) [a, b] [] pos) (mArgs (d2 dMin2) (mCons oa (mCons ob mNil))) := em_cb (call_min2 hc) calls_min2 (nox_d2 nx_min2) hm (by decide +kernel) (am_cons h (am_cons k am_nil hs2) hs) hg (by decide) (by decide) hs hpl
end
/-! from M17 -/
section
variable {X : Cx} {E : XK} {a b c e : PySem.Expr} {es : List PySem.Expr} {pos p : Pos} {x : Str}
variable {ma mb m oa ob oc : RE → Out (D × RE)} {K : KW}
/-- list(x) of a list or a tuple -/
@[simp] def dList : D → Out D
  | .lst ds => .ok (.lst ds)
  | .frl ds => .ok (.lst ds)
  | .tup ds => .ok (.lst ds)
  | _ => .stuck
/-- dict(d) -/
@[simp] def dDict : D → Out D
  | .dic kvs => .ok (.dic kvs)
  | _ => .stuck
theorem nx_dict : NoX1 dDict := fun a x st h => by cases a <;> cases h
theorem callf_dict : CallF K (fun xs H Q => ∃ (a : Addr) (kvs : List (Key × V)), xs = [.ref a] ∧ Rd H a (.dK kvs) ∧ ∀ p, H p = none → Q (.ref p) (upd H p (.dK kvs))) (d1 dDict) := callf_1 fun x H W dx Q s h1 d hd k => by
  cases dx <;> (try cases hd) <;> simp only [RepT] at h1
  obtain ⟨a, us, rfl, hq, hl⟩ := h1
  exact ⟨a, us, rfl, hq, fun l hl' => k l _ hl' ⟨l, us, rfl, upd_same, hl⟩⟩
theorem fm_dict (hm : X.mg "dict" = none) (h : EM X E e oa) (hg : Gl X "dict" := by rfl) (hs : starEach [e] X.env = (false, eval e X.env) :: starEach [] X.env := by rfl) (hpl : (backTo pos (starEach [] X.env)).any (·.1) = false := by rfl) : FM X E (.Call (.Name "dict" p) [e] [] pos) (mArgs (d1 dDict) (mCons oa mNil)) :=
  fm_ct call_dictD callf_dict (nox_d1 nx_dict) hm (by decide +kernel) (am_cons h am_nil hs) hg (by decide) (by decide) hs hpl
/-- list(d): its keys -/
@[simp] def dListD : D → Out D
  | .dic kvs => .ok (.lst (kvs.map kvKey))
  | _ => .stuck
theorem nx_listD : NoX1 dListD := fun a x st h => by cases a <;> cases h
theorem repL_keys {W : Wd} : ∀ {ds : List (Key × D)} {vs : List (Key × V)}, RepK K W ds vs → RepL K W (ds.map kvKey) (vs.map fun kv => kV kv.1)
  | [], vs, h => by simp only [RepK] at h; subst h; simp only [List.map_nil, RepL]
  | (k, d) :: ds, vs, h => by
    simp only [RepK] at h
    obtain ⟨v, us, rfl, _, t⟩ := h
    simp only [List.map_cons, RepL]
    exact ⟨_, _, rfl, repD_key, repL_keys t⟩
theorem callf_listD : CallF K (fun xs H Q => ∃ (a : Addr) (kvs : List (Key × V)), xs = [.ref a] ∧ Rd H a (.dK kvs) ∧ ∀ p, H p = none → Q (.ref p) (upd H p (.lst (kvs.map fun kv => kV kv.1)))) (d1 dListD) := callf_1 fun x H W dx Q s h1 d hd k => by
  cases dx <;> (try cases hd) <;> simp only [RepT] at h1
  obtain ⟨a, us, rfl, hq, hl⟩ := h1
  exact ⟨a, us, rfl, hq, fun l hl' => k l _ hl' ⟨l, _, rfl, upd_same, repL_keys hl⟩⟩
theorem fm_listD (hm : X.mg "list" = none) (h : EM X E e oa) (hc : X.calm = true := by rfl) (hg : Gl X "list" := by rfl) (hs : starEach [e] X.env = (false, eval e X.env) :: starEach [] X.env := by rfl) (hpl : (backTo pos (starEach [] X.env)).any (·.1) = false := by rfl) : FM X E (.Call (.Name "list" p) [e] [] pos) (mArgs (d1 dListD) (mCons oa mNil)) :=
  fm_ct (call_listD hc) callf_listD (nox_d1 nx_listD) hm (by decide +kernel) (am_cons h am_nil hs) hg (by decide) (by decide) hs hpl
end
/-! from M18 -/
section
variable {X : Cx} {E : XK} {a b c e : PySem.Expr} {es : List PySem.Expr} {pos p : Pos} {x : Str}
variable {ma mb m oa ob oc : RE → Out (D × RE)} {K : KW}
/-- tuple(x) -/
@[simp] def dTuple : D → Out D
  | .lst ds => .ok (.tup ds)
  | .frl ds => .ok (.tup ds)
  | .tup ds => .ok (.tup ds)
  | _ => .stuck
end
/-! from M19 -/
section
variable {K : KW} {W : Wd}
@[simp] def fInsert : D → List D → Out (D × D)
  | .lst xs, [.int i, d] => if xs.length < 1000000 ∧ 0 ≤ i ∧ i < 1000000 then .ok (.non, .lst (xs.take i.toNat ++ [d] ++ xs.drop i.toNat)) else .stuck
  | _, _ => .stuck
end
/-! from M20 -/
section
variable {K : KW} {E : XK} {W : Wd}
@[simp] def dRev : D → Out D
  | .lst ds => .ok (.lst ds.reverse)
  | .frl ds => .ok (.lst ds.reverse)
  | _ => .stuck
end
end Mir
set_option maxHeartbeats 4000000
/-! sets of keys (ints and texts) that can be walked -/
namespace KS
open PySem PySem.Spec PyProof.Rows L2
/-- the key that an entry holds -/
def kOf (e : Int × Value) : Key := match e.2 with
  | .int k _ => .inl k
  | .str x _ => .inr x
  | _ => .inl 0
/-- an entry as it should be -/
def Fit (w : World) (e : Int × Value) : Prop := keyIs (kOf e) e.2 = true ∧ e.1 = keyH w (kOf e)
theorem kOf_key {k : Key} {h : Int} {u : Value} (e : keyIs k u = true) : kOf (h, u) = k := by
  rcases keyIs_shape e with ⟨i, t, rfl, rfl⟩ | ⟨x, t, rfl, rfl⟩ <;> rfl
theorem scan_key {k : Key} {u : Value} (e : keyIs k u = true) : u.scannable = true := by
  rcases keyIs_shape e with ⟨i, t, rfl, rfl⟩ | ⟨x, t, rfl, rfl⟩ <;> rfl
theorem fit_new {w : World} {k : Key} {u : Value} (e : keyIs k u = true) : Fit w (keyH w k, u) := by
  refine ⟨?_, ?_⟩
  · rw [kOf_key e]; exact e
  · rw [kOf_key e]
/-- the table can be walked -/
def Way (w : World) (t : SetTable) : Prop := Ris t.place.toList ∧ (w.params.followText "set-order" = true ∨ t.led = true)
/-- what the entries tell: the members, each once -/
structure Tells (w : World) (es : Array (Int × Value)) (S : Key → Bool) : Prop where
  fit : ∀ e ∈ es.toList, Fit w e
  one : (es.toList.map kOf).Nodup
  mem : ∀ k, S k = true ↔ k ∈ es.toList.map kOf
  few : es.size < scanBound
/-- the set of keys at a -/
def KSet (w : World) (h : Heap) (a : Addr) (S : Key → Bool) (n : Nat) : Prop :=
  ∃ o es ep t, h.get? a = some o ∧ o.ExactSet ∧ o.data = .set es ep t ∧ Tells w es S ∧ t.fits es.size = true ∧ es.size = n ∧ Way w t
section
variable {P : Program} {w : World} {h h' : Heap} {a : Addr} {S : Key → Bool} {n : Nat} {es : Array (Int × Value)}
theorem KSet.kept (R : KSet w h a S n) (k : ∀ o, h.get? a = some o → h'.get? a = some o) : KSet w h' a S n :=
  let ⟨o, es, ep, t, ho, r⟩ := R; ⟨o, es, ep, t, k o ho, r⟩
theorem KSet.same {S' : Key → Bool} (R : KSet w h a S n) (e : ∀ k, S' k = S k) : KSet w h a S' n := (funext e : S' = S) ▸ R
theorem Tells.elems (T : Tells w es S) : ElemsOf (mixKind P w) es.toList := fun e he => ⟨⟨kOf e, (T.fit e he).1, (T.fit e he).2⟩, scan_key (T.fit e he).1⟩
theorem Tells.has (T : Tells w es S) (k : Key) : S k = true ↔ ∃ e ∈ es.toList, (mixKind P w).is k e.2 = true := by
  rw [T.mem k, List.mem_map]
  refine ⟨fun ⟨e, he, q⟩ => ⟨e, he, ?_⟩, fun ⟨e, he, q⟩ => ⟨e, he, ?_⟩⟩
  · have := (T.fit e he).1
    rw [q] at this; exact this
  · have : kOf (e.1, e.2) = k := kOf_key (h := e.1) (show keyIs k e.2 = true from q)
    exact this
theorem KSet.of (R : KSet w h a S n) : h.SetOf (mixKind P w) a S n :=
  let ⟨o, es, ep, t, ho, hx, hd, T, hf, hn, _⟩ := R; ⟨o, es, ep, t, ho, hx, hd, T.elems, T.has, T.few, hf, hn⟩
theorem Tells.perm {es' : Array (Int × Value)} (T : Tells w es S) (p : es'.toList.Perm es.toList) : Tells w es' S where
  fit := fun e he => T.fit e (p.mem_iff.mp he)
  one := (p.map kOf).nodup_iff.mpr T.one
  mem := fun k => (T.mem k).trans (p.map kOf).mem_iff.symm
  few := by
    have : es'.size = es.size := by rw [← Array.length_toList, p.length_eq, Array.length_toList]
    rw [this]; exact T.few
theorem Tells.more {es' : Array (Int × Value)} {k : Key} {u : Value} (T : Tells w es S) (e : keyIs k u = true) (hk : S k = false) (hz : es.size + 1 < scanBound) (p : es'.toList.Perm ((keyH w k, u) :: es.toList)) : Tells w es' (fun j => S j || decide (j = k)) where
  fit := fun x hx => by
    rcases List.mem_cons.mp (p.mem_iff.mp hx) with z | z
    · rw [z]; exact fit_new e
    · exact T.fit x z
  one := by
    refine (p.map kOf).nodup_iff.mpr ?_
    rw [List.map_cons, kOf_key e, List.nodup_cons]
    refine ⟨fun z => ?_, T.one⟩
    rw [(T.mem k).mpr z] at hk; cases hk
  mem := fun j => by
    rw [(p.map kOf).mem_iff, List.map_cons, kOf_key e, List.mem_cons, Bool.or_eq_true, decide_eq_true_eq, T.mem j]
    exact Or.comm
  few := by
    have : es'.size = es.size + 1 := by rw [← Array.length_toList, p.length_eq, List.length_cons, Array.length_toList]
    rw [this]; exact hz
end
section
variable {P : Program} {w : World} {A : Around} {E : Value → Shared → Prop} {s : Shared} {a : Addr} {S : Key → Bool} {n : Nat}
/-- the end of an adding: the table is stored, and laid anew if it is too full -/
theorem store_tail {g : Bool → Sem Unit} (hg : ∀ (b : Bool) (s₁ : Shared) (Q' : Unit → Shared → Prop), Q' () s₁ → wpAny (model P w) A (g b) Q' E s₁)
    {o : Obj} {es : Array (Int × Value)} {ep : Nat} {t : SetTable} (ho : s.heap.get? a = some o) (hx : o.ExactSet) (hd : o.data = .set es ep t)
    {es1 : Array (Int × Value)} {t1 : SetTable} {S' : Key → Bool} (T : Tells w es1 S') (hf : t1.fits es1.size = true) (wy : Way w t1) {dm : Bool} {R : Option Bool → Shared → Prop}
    (hR : ∀ h', Heap.SameBut a s.heap h' → KSet w h' a S' es1.size → R (some true) { s with heap := h' }) :
    wpAny (model P w) A (do
        storeSet a es1 t1
        if (!dm && t1.tooFull) = true then do
            g (relayAll t1 es1 (SetTable.grown es1.size)).2.2
            storeSet a (relayAll t1 es1 (SetTable.grown es1.size)).1 (relayAll t1 es1 (SetTable.grown es1.size)).2.1
            pure (some true)
          else pure (some true)) R E s := by
  refine wpAny_bind (wpAny_storeSet_of ho hd ?_ (fits_of_scanBound T.few))
  have o1 := store_at (es' := es1) (t' := t1) ho hd
  have sb := Heap.SameBut.update s.heap a (Obj.putSet es1 t1)
  split
  · have p2 := relayAll_perm t1 es1 (SetTable.grown es1.size)
    have f2 := relayAll_fits t1 es1 (SetTable.grown es1.size)
    have r2 := relayAll_ris t1 es1 (SetTable.grown es1.size)
    have l2 := relayAll_led t1 es1 (SetTable.grown es1.size)
    generalize relayAll t1 es1 (SetTable.grown es1.size) = Y at p2 f2 r2 l2 ⊢
    obtain ⟨es2, t2, gv⟩ := Y
    dsimp only at p2 f2 r2 l2 ⊢
    have T2 := T.perm p2
    have hsz : es2.size = es1.size := by rw [← Array.length_toList, p2.length_eq, Array.length_toList]
    refine wpAny_bind (hg _ _ _ (wpAny_bind (wpAny_storeSet_of o1 rfl (wpAny_pure (hR _ (sb.trans (Heap.SameBut.update _ a _)) ?_)) (fits_of_scanBound T2.few))))
    exact ⟨_, es2, _, t2, store_at (es' := es2) (t' := t2) o1 rfl, hx, rfl, T2, f2, hsz, r2, wy.2.imp id fun z => by rw [l2]; exact z⟩
  · exact wpAny_pure (hR _ sb ⟨_, es1, _, t1, o1, hx, rfl, T, hf, rfl, wy⟩)
theorem add_hashed {k : Key} {u : Value} {Q : Bool → Shared → Prop} (hu : keyIs k u = true) (R : KSet w s.heap a S n) (room : n + 1 < scanBound)
    (hQ : ∀ h', Heap.SameBut a s.heap h' → KSet w h' a (fun j => S j || decide (j = k)) (if S k = true then n else n + 1) → Q (!S k) { s with heap := h' }) :
    wpAny (model P w) A (setAddHashed a u ((mixKind P w).hash k)) Q E s := by
  obtain ⟨o, es, ep, t, ho, hx, hd, T, hf, hn, wy⟩ := R
  have hsc := scan_key hu
  have hel : ElemsOf (mixKind P w) es.toList := T.elems
  unfold setAddHashed setAddHashedIn
  refine wpAny_holding (wpAny_bind (wpAny_setState_of ho hd hf ?_))
  dsimp only
  rw [byScan_of hsc T.few hel]
  simp only [↓reduceIte]
  unfold setAddByScan
  refine wpAny_bind (wpAny_bind (wpAny_rule (wpAny_bind (wpAny_setScan_of (knd := mixKind P w) hu ho hd hf hel ?_))))
  cases hfi : List.findIdx? (fun e => (mixKind P w).is k e.2) es.toList with
  | some j =>
    dsimp only
    obtain ⟨hj, pj, _⟩ := List.findIdx?_eq_some_iff_getElem.mp hfi
    have hS : S k = true := (T.has (P := P) k).mpr ⟨_, List.getElem_mem hj, pj⟩
    have q := hQ s.heap (Heap.SameBut.refl a s.heap) ⟨o, es, ep, t, ho, hx, hd, ⟨T.fit, T.one, fun i => by
      rw [Bool.or_eq_true, decide_eq_true_eq, ← T.mem i]
      exact ⟨fun z => z.elim id fun e => e ▸ hS, .inl⟩, T.few⟩, hf, by rw [if_pos hS]; exact hn, wy⟩
    rw [hS] at q
    exact wpAny_pure (wpAny_pure q)
  | none =>
    dsimp only
    have hS : S k = false := by
      cases q : S k with
      | false => rfl
      | true =>
        obtain ⟨e, he, z⟩ := (T.has (P := P) k).mp q
        have := List.findIdx?_eq_none_iff.mp hfi e he
        rw [z] at this; cases this
    have p1 := layNew_perm t es ((mixKind P w).hash k) u
    have f1 := layNew_fits t es ((mixKind P w).hash k) u
    have r1 := layNew_ris t es ((mixKind P w).hash k) u wy.1
    have l1 := layNew_led t es ((mixKind P w).hash k) u
    generalize layNew t es ((mixKind P w).hash k) u = Y at p1 f1 r1 l1 ⊢
    obtain ⟨es1, t1, dm, gv⟩ := Y
    dsimp only at p1 f1 r1 l1 ⊢
    rw [Array.toList_push] at p1
    have pc : es1.toList.Perm ((keyH w k, u) :: es.toList) := p1.trans (List.perm_append_singleton _ _)
    have T1 := T.more hu hS (by omega) pc
    have hsz : es1.size = n + 1 := by rw [← Array.length_toList, pc.length_eq, List.length_cons, Array.length_toList, hn]
    have w1 : Way w t1 := ⟨r1, wy.2.imp id fun z => by rw [l1]; exact z⟩
    have fin : ∀ h', Heap.SameBut a s.heap h' → KSet w h' a (fun j => S j || decide (j = k)) es1.size → Q true { s with heap := h' } := fun h' sb r => by
      have q := hQ h' sb
      rw [hS] at q
      rw [hsz] at r
      exact q r
    have way : ∀ (b : Bool) (s₁ : Shared) (Q' : Unit → Shared → Prop), Q' () s₁ → wpAny (model P w) A (match b with | true => rule "set.scan.the-table-gave-way" | false => pure ()) Q' E s₁ :=
      fun b s₁ Q' q => by cases b <;> first | exact wpAny_pure q | exact wpAny_rule q
    refine wpAny_bind (way _ _ _ ?_)
    split
    · refine wpAny_bind ?_
      rw [hashByValue_scannable 8 hsc]
      refine wpAny_pure (store_tail ?_ ho hx hd T1 ?_ ?_ ?_)
      · intro b s₁ Q' q; cases b <;> first | exact wpAny_pure q | exact wpAny_rule q
      · first | (split <;> first | exact f1 | exact SetTable.fits_plain_off f1) | exact f1
      · first | (split <;> exact w1) | exact w1
      · intro h' sb r; dsimp only; exact wpAny_pure (fin h' sb r)
    · refine wpAny_bind (wpAny_pure ?_)
      simp only [↓reduceIte]
      refine store_tail ?_ ho hx hd T1 f1 w1 ?_
      · intro b s₁ Q' q; cases b <;> first | exact wpAny_pure q | exact wpAny_rule q
      · intro h' sb r; dsimp only; exact wpAny_pure (fin h' sb r)
/-- x.add(k) -/
theorem add_call {k : Key} {u : Value} {Q : Value → Shared → Prop} (hu : keyIs k u = true) (R : KSet w s.heap a S n) (room : n + 1 < scanBound)
    (hQ : ∀ h', Heap.SameBut a s.heap h' → KSet w h' a (fun j => S j || decide (j = k)) (if S k = true then n else n + 1) → Q .none { s with heap := h', toks := s.toks + 1 }) :
    wpAny (model P w) A (call (.builtin "set.add") [.ref a, u]) Q E s := by
  have hS : s.heap.SetOf (mixKind P w) a S n := R.of
  refine wpAny_call_entry F.slot_set_add hS.typeIs F.entry_set_add ?_ (F.args_set_add_2 _ _)
  unfold Builtin.«set.add» Builtin.Frozenset.oneOther Builtin.Frozenset.addrOf setAdd
  simp only [List.isEmpty_nil, bind_assoc]
  refine wpAny_bind (wpAny_pure ?_)
  try dsimp only
  refine wpAny_bind (wpAny_pure ?_)
  try dsimp only
  refine wpAny_bind (wpAny_holding (wpAny_bind ((mixKind P w).pyHash hu ?_)))
  refine add_hashed (s := { s with toks := s.toks + 1 }) hu R room fun h' sb r => ?_
  exact wpAny_pure ⟨_, rfl, hQ h' sb r⟩
end
/-- a new set -/
def fresh0 (w : World) : Obj := { cls := .type "set", dict := none, data := .set #[] 0 (.fresh 0 0 (!w.params.followText "set-order")) }
theorem kset_fresh {w : World} {h : Heap} {a : Addr} (ho : h.get? a = some (fresh0 w)) : KSet w h a (fun _ => false) 0 :=
  ⟨_, #[], 0, _, ho, ⟨rfl, rfl, rfl⟩, rfl, ⟨fun e he => absurd he (by simp), by simp, fun k => by simp, by decide⟩, rfl, rfl, List.Pairwise.nil, by
    show _ ∨ (!w.params.followText "set-order") = true
    cases w.params.followText "set-order"
    · exact .inr rfl
    · exact .inl rfl⟩
end KS
set_option maxHeartbeats 4000000
namespace KS
open PySem PySem.Spec PyProof.Rows L2
/-! ## set(x): a list or a tuple of keys -/
def hasK (ks : List Key) (j : Key) : Bool := ks.any fun x => decide (x = j)
theorem hasK_iff {ks : List Key} {j : Key} : hasK ks j = true ↔ j ∈ ks := by
  unfold hasK
  rw [List.any_eq_true]
  constructor
  · rintro ⟨x, hx, e⟩
    rw [decide_eq_true_eq] at e
    exact e ▸ hx
  · intro h
    exact ⟨j, h, by rw [decide_eq_true_eq]⟩
section
variable {P : Program} {w : World} {A : Around} {E : Value → Shared → Prop} {s : Shared}
/-- the loop that adds what an iterator gives -/
theorem fill_loop {I : Addr} {fp wr : List Addr} {G : Array GenState → Array GenState → Prop} {m : Nat} {Pv : Nat → Value → Prop} {St : Nat → Shared → Prop} {R : Result → Shared → Prop}
    (W : WalksS P w A.in1 I fp wr G m Pv St) (S : Addr) (hSf : S ∉ fp) (ks : List Key) (hm : m = ks.length) (hb : ks.length + 1 < scanBound) (hval : ∀ i v, Pv i v → ∃ k, ks[i]? = some k ∧ keyIs k v = true) :
    ∀ (d i : Nat) (s : Shared), m - i = d → i ≤ m → St i s → (∃ c, c ≤ i ∧ KSet w s.heap S (hasK (ks.take i)) c) →
      (∀ s' c, Moved (S :: wr) G s s' → c ≤ m → KSet w s'.heap S (hasK ks) c → R (.ok (.ret .none)) s') →
      codeAny (model P w) A (.builtin "set.update.loop" ⟨[.ref S, .ref I], []⟩) R s := by
  have nSw : S ∉ wr := fun z => hSf (W.sub _ z)
  have inw : ∀ b ∈ wr, b ∈ S :: wr := fun _ z => List.mem_cons_of_mem _ z
  intro d
  induction d with
  | zero =>
    rintro i s hd hi hst ⟨c, hc, hK⟩ hR
    obtain rfl : i = m := by omega
    refine codeAny_builtin F.entry_set_update_loop ?_
    rw [Around.under_plainId F.plain_set_update_loop _]
    show wpAny _ A.in1 (pyNext (.ref I) >>= _) _ _ s
    refine wpAny_bind (W.done s _ _ hst fun s' mv => ?_)
    rw [List.take_of_length_le (by omega)] at hK
    exact wpAny_pure (hR s' c (mv.mono inw) hc (hK.kept fun o e => mv.heap S o nSw e))
  | succ d ih =>
    rintro i s hd hi hst ⟨c, hc, hK⟩ hR
    have hlt : i < m := by omega
    refine codeAny_builtin F.entry_set_update_loop ?_
    rw [Around.under_plainId F.plain_set_update_loop _]
    show wpAny _ A.in1 (pyNext (.ref I) >>= _) _ _ s
    refine wpAny_bind (W.item i s _ _ hlt hst fun v s' hv hst' mv => ?_)
    obtain ⟨k, hk, hkv⟩ := hval i v hv
    have hK' := hK.kept (h' := s'.heap) fun o e => mv.heap S o nSw e
    show wpAny _ A.in1 (holding [v] (setAdd S v) >>= _) _ _ s'
    refine wpAny_bind (wpAny_holding ?_)
    unfold setAdd
    refine wpAny_holding (wpAny_bind ((mixKind P w).pyHash (k := k) hkv ?_))
    refine add_hashed (s := { s' with toks := s'.toks + 1 }) hkv hK' (by omega) fun h' sb hK2 => ?_
    have hK3 : KSet w h' S (hasK (ks.take (i + 1))) (if hasK (ks.take i) k = true then c else c + 1) := hK2.same fun j => by
      rw [List.take_add_one, hk]
      unfold hasK
      rw [List.any_append]
      simp [eq_comm]
    refine wpAny_pure ⟨plainId_quiet F.plain_set_update_loop _, ih (i + 1) _ (by omega) hlt (W.frame _ s' _ _ hst' (Nat.le_succ _) fun b hb o e => ?_) ⟨_, by split <;> omega, hK3⟩ fun s2 c2 mv2 hc2 hK4 => ?_⟩
    · exact (sb.2 b (fun z : b = S => hSf (z ▸ hb))).trans e
    · refine hR s2 c2 (Moved.trans W.gtrans ((mv.mono inw).then_heap (Nat.le_succ _) fun b o hb e => ?_) mv2) hc2 hK4
      exact (sb.2 b (fun z : b = S => hb (z ▸ List.mem_cons_self))).trans e
theorem paired_at {α β : Type} {F : α → β → Prop} : ∀ {l₁ : List α} {l₂ : List β} {i : Nat} {b : β}, Paired F l₁ l₂ → l₂[i]? = some b → ∃ a, l₁[i]? = some a ∧ F a b
  | _, _, _, _, .nil, e => by simp at e
  | _, _, 0, _, .cons r _, e => by simp at e; subst e; exact ⟨_, rfl, r⟩
  | _, _, i + 1, b, .cons _ t, e => by
    obtain ⟨a, h1, h2⟩ := paired_at (i := i) (b := b) t (by simpa using e)
    exact ⟨a, by simpa using h1, h2⟩
/-- what set(x) leaves -/
def Made (w : World) (s : Shared) (ks : List Key) (s' : Shared) : Prop := ∃ h' tk c, s' = { s with heap := h', toks := tk } ∧ KSet w h' s.heap.objs.size (hasK ks) c ∧ c ≤ ks.length ∧ ∀ b o, s.heap.get? b = some o → h'.get? b = some o
set_option maxHeartbeats 3200000 in
/-- set(x) for a list or a tuple x of keys -/
theorem call_set {l : Addr} {items : Array Value} {T : String} {ks : List Key} {Q : Value → Shared → Prop} (hT : T = "list" ∨ T = "tuple") (hh : A.handled = none) (hl : ∃ o n, s.heap.get? l = some o ∧ o.cls = .type T ∧ o.data = .seq items n)
    (hi : Paired (fun (k : Key) (v : Value) => keyIs k v = true) ks items.toList) (hb : ks.length + 1 < scanBound) (h : ∀ s', Made w s ks s' → Q (.ref s.heap.objs.size) s') : wpAny (model P w) A (call (.type "set") [.ref l]) Q E s := by
  obtain ⟨mc, ml, hmro⟩ := F.called_set.mro
  have hmade := F.called_set.made
  have hsub := F.called_set.sub
  refine wpAny_call (codeAny_of_tree ?_)
  show wpAny _ _ (callAny (.type "set") _) _ _ _
  refine wpAny_pure ⟨Code.quiet_builtin _ (by decide +kernel), codeAny_builtin F.entry_type_call ?_⟩
  rw [Around.under_plain (weight_type_call_type "set" [.ref l] []) rfl]
  have e1 := F.called_set.notType
  have e2 := F.called_set.canCreate
  have e3 := F.typeCall_set_1 (.ref l)
  repeat (any_goals (first | assumption | wp_step))
  refine codeAny_mono (code_set_led1 (.ref l) (E := E) (Q₁ := fun obj s₁ => obj = .ref s.heap.objs.size ∧ s₁ = { s with heap := s.heap.push (fresh0 w) }) ⟨rfl, rfl⟩) fun r s₁ hr => ?_
  cases r with
  | error e => exact hr
  | ok fl =>
    cases fl with
    | ret obj =>
      obtain ⟨rfl, rfl⟩ := hr
      have hS : (s.heap.push (fresh0 w)).get? s.heap.objs.size = some (fresh0 w) := Heap.get?_push_size _ rfl
      have hTy : Shared.TypeIs { s with heap := s.heap.push (fresh0 w) } (.ref s.heap.objs.size) "set" := ⟨_, hS, rfl⟩
      have f1 := F.called_set.init.lookup
      have f2 := F.called_set.init.bind (.ref s.heap.objs.size)
      repeat (any_goals (first | assumption | wp_step))
      refine codeAny_mono (codeAny_call_builtin (R := wants (fun r s₂ => r = .none ∧ Made w s ks s₂) E) F.called_set.init.plain F.entry_set_init (check_set_init_1 hTy ?_)) fun r₂ s₂ hr₂ => ?_
      · obtain ⟨ol, nl, hol, hcl, hdl⟩ := hl
        have hlS : l < s.heap.objs.size := Heap.lt_size hol
        have hsz : items.size = ks.length := by rw [← Array.length_toList]; exact (Paired.length hi).symm
        have hol' : (s.heap.push (fresh0 w)).get? l = some ol := Heap.get?_push_of_some _ hol
        have hval : ∀ (i : Nat) (v : Value), items[i]? = some v → ∃ k, ks[i]? = some k ∧ keyIs k v = true := fun i v hv => by
          rw [← Array.getElem?_toList] at hv
          exact paired_at (F := fun (k : Key) (v : Value) => keyIs k v = true) hi hv
        have hh3 : A.in1.in1.in1.handled = none := by simp [hh]
        have hz1 : (s.heap.push (fresh0 w)).objs.size = s.heap.objs.size + 1 := Heap.size_push ..
        have hneI : l ≠ (s.heap.push (fresh0 w)).objs.size := by rw [hz1]; exact Nat.ne_of_lt (Nat.lt_succ_of_lt hlS)
        have hSf : s.heap.objs.size ∉ [(s.heap.push (fresh0 w)).objs.size, l] := by
          rw [hz1]; simp only [List.mem_cons, List.not_mem_nil, or_false, not_or]; exact ⟨Nat.ne_of_lt (Nat.lt_succ_self _), Nat.ne_of_gt hlS⟩
        have fin : ∀ {G : Array GenState → Array GenState → Prop} {s2 : Shared} {io : Obj} (s' : Shared) (c : Nat), Moved (s.heap.objs.size :: [(s.heap.push (fresh0 w)).objs.size]) G s2 s' → (∀ a b, G a b → b = a) → (s2.heap = (s.heap.push (fresh0 w)).push io ∧ s2.gens = s.gens ∧ s2.drawn = s.drawn ∧ s2.os = s.os) → c ≤ ks.length → KSet w s'.heap s.heap.objs.size (hasK ks) c → Made w s ks s' := fun {G s2 io} s' c mv hG hs2 hc hK => by
          obtain ⟨h', g', d', tk', os'⟩ := s'
          have eg : g' = s.gens := (hG _ _ mv.gens).trans hs2.2.1
          have ed : d' = s.drawn := mv.drawn.trans hs2.2.2.1
          have eo : os' = s.os := mv.os.trans hs2.2.2.2
          subst eg; subst ed; subst eo
          refine ⟨h', tk', c, rfl, hK, hc, fun b o e => ?_⟩
          have hb0 : b < s.heap.objs.size := Heap.lt_size e
          refine mv.heap b o ?_ (by rw [hs2.1]; exact Heap.get?_push_of_some _ (Heap.get?_push_of_some _ e))
          rw [hz1]; simp only [List.mem_cons, List.not_mem_nil, or_false, not_or]; exact ⟨Nat.ne_of_lt hb0, Nat.ne_of_lt (Nat.lt_succ_of_lt hb0)⟩
        obtain ⟨ocls, odict, odata, oslots⟩ := ol
        simp only at hcl hdl
        subst hcl; subst hdl
        rcases hT with rfl | rfl
        · have g1 := F.sub_list_set
          have g2 := F.sub_list_frozenset
          have g3 : (Value.type "list" == Value.type "dict") = false := by decide
          have hl1 : (s.heap.push (fresh0 w)).IsList l items := ⟨_, hol', rfl, nl, rfl⟩
          unfold Builtin.«set.__init__» noKeywords Builtin.Frozenset.updateFrom
          generalize hPI : pyIter = PI
          wp_walk
          subst hPI
          refine wpAny_pyIter_list hl1 (wpAny_bind (wpAny_runValue ?_))
          refine fill_loop ((Walks.list hh3 _ l hneI items).toS) s.heap.objs.size hSf ks hsz hb hval (items.size - 0) 0 _ (by omega) (Nat.zero_le _)
            ⟨⟨_, Heap.get?_push_size _ rfl, rfl, rfl⟩, (hl1.push _)⟩ ⟨0, Nat.le_refl 0, kset_fresh (Heap.get?_push_of_some _ hS)⟩ fun s' c mv hc hK => ?_
          refine wpAny_pure (wpAny_pure ⟨rfl, fin s' c mv (fun a b z => z) ⟨rfl, rfl, rfl, rfl⟩ (by omega) hK⟩)
        · have g1 := F.sub_tuple_set
          have g2 := F.sub_tuple_frozenset
          have g3 : (Value.type "tuple" == Value.type "dict") = false := by decide
          have hl1 : (s.heap.push (fresh0 w)).IsTuple l items := ⟨_, hol', rfl, nl, rfl⟩
          unfold Builtin.«set.__init__» noKeywords Builtin.Frozenset.updateFrom
          generalize hPI : pyIter = PI
          wp_walk
          subst hPI
          refine wpAny_pyIter_tuple hl1 (wpAny_bind (wpAny_runValue ?_))
          refine fill_loop ((Walks.tuple hh3 _ l hneI items).toS) s.heap.objs.size hSf ks hsz hb hval (items.size - 0) 0 _ (by omega) (Nat.zero_le _)
            ⟨⟨_, Heap.get?_push_size _ rfl, rfl, rfl⟩, (hl1.push _)⟩ ⟨0, Nat.le_refl 0, kset_fresh (Heap.get?_push_of_some _ hS)⟩ fun s' c mv hc hK => ?_
          refine wpAny_pure (wpAny_pure ⟨rfl, fin s' c mv (fun a b z => z) ⟨rfl, rfl, rfl, rfl⟩ (by omega) hK⟩)
      · cases r₂ with
        | error e => exact hr₂
        | ok fl₂ =>
          cases fl₂ with
          | ret r =>
            obtain ⟨rfl, md⟩ := hr₂
            repeat (any_goals (first | assumption | wp_step))
            exact h _ md
          | _ => exact hr₂.elim
    | _ => exact hr.elim
end
end KS
set_option maxHeartbeats 4000000
namespace KS
open PySem PySem.W PySem.Spec PyProof.Rows L2
/-! ## keys in order -/
def encK : Key → PyData
  | .inl i => .int i
  | .inr x => .str x
def allI (ks : List Key) : Bool := ks.all fun k => match k with | .inl _ => true | _ => false
def allS (ks : List Key) : Bool := ks.all fun k => match k with | .inr _ => true | _ => false
def hom (ks : List Key) : Bool := allI ks || allS ks
/-- the order of data -/
def leP (a b : PyData) : Bool := !dataLt b a
theorem leP_total (a b : PyData) : leP a b = true ∨ leP b a = true := by
  unfold leP dataLt
  cases h1 : PyProof.Rows.lexLt itemOrd (keyToks b) (keyToks a) with
  | false => exact .inl rfl
  | true =>
    cases h2 : PyProof.Rows.lexLt itemOrd (keyToks a) (keyToks b) with
    | false => exact .inr rfl
    | true =>
      have := (listOrd itemOrd).trans _ _ _ h1 h2
      rw [(listOrd itemOrd).irrefl] at this; cases this
theorem leP_trans {a b c : PyData} (h1 : leP a b = true) (h2 : leP b c = true) : leP a c = true := by
  unfold leP dataLt at *
  cases h : PyProof.Rows.lexLt itemOrd (keyToks c) (keyToks a) with
  | false => rfl
  | true =>
    rcases (listOrd itemOrd).negTrans _ (keyToks b) _ h with z | z
    · have z' : PyProof.Rows.lexLt itemOrd (keyToks c) (keyToks b) = true := z
      rw [z'] at h2; cases h2
    · have z' : PyProof.Rows.lexLt itemOrd (keyToks b) (keyToks a) = true := z
      rw [z'] at h1; cases h1
theorem leP_anti {a b : PyData} (h1 : leP a b = true) (h2 : leP b a = true) : keyToks a = keyToks b := by
  unfold leP dataLt at *
  refine (listOrd itemOrd).total _ _ ?_ ?_
  · show PyProof.Rows.lexLt itemOrd (keyToks a) (keyToks b) = false
    cases h : PyProof.Rows.lexLt itemOrd (keyToks a) (keyToks b) with
    | false => rfl
    | true => rw [h] at h2; cases h2
  · show PyProof.Rows.lexLt itemOrd (keyToks b) (keyToks a) = false
    cases h : PyProof.Rows.lexLt itemOrd (keyToks b) (keyToks a) with
    | false => rfl
    | true => rw [h] at h1; cases h1
def leK (a b : Key) : Bool := leP (encK a) (encK b)
theorem encK_inj {a b : Key} (h : keyToks (encK a) = keyToks (encK b)) : a = b := by
  cases a <;> cases b <;> simp only [encK, keyToks, List.cons.injEq, and_true, Sum.inl.injEq, Sum.inr.injEq, reduceCtorEq] at h
  · rw [h]
  · rw [str_of_cps h]
def sortK (ks : List Key) : List Key := ks.mergeSort leK
def dedupK : List Key → List Key
  | [] => []
  | k :: ks => if hasK ks k = true then dedupK ks else k :: dedupK ks
theorem mem_dedup {k : Key} : ∀ {ks : List Key}, k ∈ dedupK ks ↔ k ∈ ks
  | [] => Iff.rfl
  | j :: ks => by
    unfold dedupK
    split
    · rename_i h
      rw [mem_dedup, List.mem_cons]
      exact ⟨.inr, fun z => z.elim (fun e => by rw [e]; exact hasK_iff.mp h) id⟩
    · rw [List.mem_cons, List.mem_cons, mem_dedup]
theorem nodup_dedup : ∀ {ks : List Key}, (dedupK ks).Nodup
  | [] => List.nodup_nil
  | j :: ks => by
    unfold dedupK
    split
    · exact nodup_dedup
    · rename_i h
      exact List.nodup_cons.mpr ⟨fun z => h (hasK_iff.mpr (mem_dedup.mp z)), nodup_dedup⟩
theorem dedup_le : ∀ {ks : List Key}, (dedupK ks).length ≤ ks.length
  | [] => Nat.le_refl _
  | j :: ks => by
    unfold dedupK
    split
    · exact Nat.le_succ_of_le dedup_le
    · exact Nat.succ_le_succ dedup_le
theorem perm_of_mem {l l' : List Key} (h : l.Nodup) (h' : l'.Nodup) (e : ∀ k, k ∈ l ↔ k ∈ l') : l.Perm l' := (List.perm_ext_iff_of_nodup h h').mpr e
theorem hom_mem {ks : List Key} (h : hom ks = true) : (∀ k ∈ ks, ∃ i, k = .inl i) ∨ (∀ k ∈ ks, ∃ x, k = .inr x) := by
  unfold hom at h
  rw [Bool.or_eq_true] at h
  rcases h with h | h
  · refine .inl fun k hk => ?_
    have := List.all_eq_true.mp h k hk
    cases k with
    | inl i => exact ⟨i, rfl⟩
    | inr x => cases this
  · refine .inr fun k hk => ?_
    have := List.all_eq_true.mp h k hk
    cases k with
    | inl i => cases this
    | inr x => exact ⟨x, rfl⟩
theorem hom_of {ks : List Key} (h : (∀ k ∈ ks, ∃ i, k = .inl i) ∨ (∀ k ∈ ks, ∃ x, k = .inr x)) : hom ks = true := by
  unfold hom
  rw [Bool.or_eq_true]
  rcases h with h | h
  · refine .inl (List.all_eq_true.mpr fun k hk => ?_)
    obtain ⟨i, rfl⟩ := h k hk; rfl
  · refine .inr (List.all_eq_true.mpr fun k hk => ?_)
    obtain ⟨i, rfl⟩ := h k hk; rfl
theorem hom_perm {ks l : List Key} (h : hom ks = true) (e : ∀ k, k ∈ l → k ∈ ks) : hom l = true := hom_of ((hom_mem h).imp (fun z k hk => z k (e k hk)) fun z k hk => z k (e k hk))
theorem sortK_pair (ks : List Key) : (sortK ks).Pairwise (fun a b => leK a b = true) :=
  List.pairwise_mergeSort (le := leK) (fun a b c h k => leP_trans (a := encK a) (b := encK b) (c := encK c) h k) (fun a b => by rw [Bool.or_eq_true]; exact leP_total (encK a) (encK b)) ks
theorem sortK_perm (ks : List Key) : (sortK ks).Perm ks := List.mergeSort_perm _ _
theorem sortK_uniq {l ks : List Key} (h : l.Perm ks) (k : l.Pairwise fun a b => leK a b = true) : l = sortK ks :=
  List.Perm.eq_of_pairwise (fun a b _ _ h1 h2 => encK_inj (leP_anti h1 h2)) k (sortK_pair ks) (h.trans (sortK_perm ks).symm)
theorem sortK_congr {l ks : List Key} (h : l.Perm ks) : sortK l = sortK ks := sortK_uniq ((sortK_perm l).trans h) (sortK_pair l)
/-! ## the set as a tracked thing -/
def KO (w : World) (a : Addr) (S : Key → Bool) (n : Nat) : HO := .ext fun h => KSet w h a S n
theorem ko_new {w : World} {P : Program} {H : Hp} {h : Heap} {a : Addr} {S : Key → Bool} {n : Nat} (R : KSet w h a S n) : ObjOk P w H h a (KO w a S n) :=
  let ⟨o, _, _, _, ho, _⟩ := R; ⟨R, ⟨o, ho⟩, fun _ _ p k => KSet.kept p k⟩
theorem kset_card {w : World} {h : Heap} {a : Addr} {ks : List Key} {n : Nat} (R : KSet w h a (hasK ks) n) : n = (dedupK ks).length := by
  obtain ⟨o, es, ep, t, ho, hx, hd, T, hf, hn, wy⟩ := R
  have p : (es.toList.map kOf).Perm (dedupK ks) := perm_of_mem T.one nodup_dedup fun k => by rw [← T.mem k, hasK_iff, mem_dedup]
  rw [← p.length_eq, List.length_map, Array.length_toList]; exact hn.symm
section
variable {X : Cx} {pins : List (Addr × Obj)} {σ : L2.St} {H : Hp} {s : Shared}
theorem ko_get {a : Addr} {S : Key → Bool} {n : Nat} (I : Inv X pins σ H s) (ha : H a = some (KO X.w a S n)) : KSet X.w s.heap a S n := (I.hok a _ ha).1
/-- x.add(k) at a new place -/
theorem ko_add {E : Value → Shared → Prop} {D : Addr} {S : Key → Bool} {n : Nat} {k : Key} {u : Value} {Q : Value → Shared → Prop} (I : Inv X pins σ H s) (hu : RelV (kV k) u) (hD : H D = some (KO X.w D S n)) (room : n + 1 < scanBound)
    (h : ∀ s', Inv X pins σ (upd H D (KO X.w D (fun j => S j || decide (j = k)) (if S k = true then n else n + 1))) s' → Q .none s') : wpAny (model X.prog X.w) X.A (call (.builtin "set.add") [.ref D, u]) Q E s := by
  refine add_call (kV_is (P := X.prog) (w := X.w) hu) (ko_get I hD) room fun h' sb new => ?_
  have he : ∃ o, h'.get? D = some o := let ⟨o, _, _, _, ho, _⟩ := new; ⟨o, ho⟩
  exact h _ (I.write (e := D) (t' := s.toks + 1) (by rw [hD]; trivial) (.inl rfl) (fun b o hb ho => (sb.2 b hb).trans ho) he (ko_new new))
theorem paired_keys {P : Program} {w : World} : ∀ {ks : List Key} {us : List Value}, Vals (ks.map kV) us → Paired (fun (k : Key) (v : Value) => keyIs k v = true) ks us
  | [], _, .nil => .nil
  | k :: ks, _, .cons r t => .cons (kV_is (P := P) (w := w) r) (paired_keys (P := P) (w := w) t)
/-- set(x) -/
def rSetOf (K : PySem.W.Frag) (w : World) : List V → Hp → VK → Prop := fun xs H Q => ∃ (a : Addr) (ks : List Key), xs = [.ref a] ∧ (SqL K H a (ks.map kV) ∨ SqT K H a (ks.map kV)) ∧ ks.length + 1 < scanBound ∧ ∀ p, H p = none → Q (.ref p) (upd H p (KO w p (hasK ks) (dedupK ks).length))
theorem cr_setOf (hc : X.calm = true) : CallR X (.type "set") (rSetOf X.K X.w) := by
  intro pins s σ H xs us Q I r h
  obtain ⟨a, ks, rfl, hq, hb, q⟩ := h
  rw [Vals.ref1 r]
  have fin : ∀ s', Made X.w s ks s' → EP X pins σ Q (.ref s.heap.objs.size) s' := fun s' ⟨h', tk, c, e, hK, _, kp⟩ => by
    subst e
    have hn := kset_card hK
    subst hn
    exact ⟨.ref _, upd H s.heap.objs.size (KO X.w s.heap.objs.size (hasK ks) (dedupK ks).length), I.laid (t' := tk) kp (Nat.le_refl _) (ko_new hK), rfl, q _ (I.hok.fresh (Nat.le_refl _))⟩
  rcases hq with hq | hq
  · obtain ⟨its, rv, ⟨o, n, e, c1, c2, c3⟩, _⟩ := I.list hq
    exact call_set (.inl rfl) (I.ok.hd hc) ⟨o, n, e, c1, c3⟩ (by simpa using paired_keys (P := X.prog) (w := X.w) rv) hb fin
  · obtain ⟨its, rv, ⟨o, e, c1, n, c3⟩, _⟩ := I.tuple hq
    exact call_set (.inr rfl) (I.ok.hd hc) ⟨o, n, e, c1, c3⟩ (by simpa using paired_keys (P := X.prog) (w := X.w) rv) hb fin
/-- sorted(x) of a set of ints, or of texts -/
def rSortK (w : World) : List V → Hp → VK → Prop := fun xs H Q => ∃ (a : Addr) (ks : List Key) (n : Nat), xs = [.ref a] ∧ H a = some (KO w a (hasK ks) n) ∧ hom ks = true ∧ ∀ p, H p = none → Q (.ref p) (upd H p (.lst ((sortK (dedupK ks)).map kV)))
theorem vals_keys : ∀ {us : List Value} {ks : List Key}, EachIs (fun v k => keyIs k v = true) us ks → Vals (ks.map kV) us
  | _, _, .nil => .nil
  | _, k :: ks, .cons (a := u) h t => .cons (by
    rcases keyIs_shape h with ⟨i, t, rfl, rfl⟩ | ⟨x, t, rfl, rfl⟩
    · exact ⟨t, rfl⟩
    · exact ⟨t, rfl⟩) (vals_keys t)
theorem cr_sortK (hc : X.calm = true) (hu : X.A.units + 70 < cLine) : CallR X (.builtin "sorted") (rSortK X.w) := by
  intro pins s σ H xs us Q I r h
  obtain ⟨a, ks, n, rfl, ha, hh, q⟩ := h
  rw [Vals.ref1 r]
  obtain ⟨o, es, ep, t, ho, hx, hd, T, hf, hn, wy⟩ := ko_get I ha
  refine Calls.call_function_entry kind_sorted plain_sorted entry_sorted (args_sorted1 _) ?_
  unfold Builtin.«sorted»
  refine wpAny_bind (m := checkCount "sorted" 1 1 _) (wpAny_pure ?_)
  refine wpAny_bind (collect_set (A := X.A.in1) (I.ok.hd hc) ⟨o, ho, hx.1, hd⟩ hf T.few wy.1 wy.2 fun s1 vs k1 hz g1 o1 pm => ?_)
  have hvl : vs.length = es.size := by rw [pm.length_eq, List.length_map, Array.length_toList]
  have hline : vs.length ≤ sizeLine := by rw [hvl]; exact fits_of_scanBound T.few
  refine wpAny_bind (wpAny_newList ?_ hline)
  have hoL : (s1.heap.push (seqObj "list" vs.toArray 0)).get? s1.heap.objs.size = some (seqObj "list" vs.toArray 0) := Heap.get?_push_size _ rfl
  have keyV : ∀ v ∈ vs, ∃ k, keyIs k v = true ∧ k ∈ ks ∧ k = kOf (0, v) := fun v hv => by
    obtain ⟨e, he, z⟩ := List.mem_map.mp (pm.mem_iff.mp hv)
    have e1 := (T.fit e he).1
    rw [z] at e1
    refine ⟨kOf e, e1, hasK_iff.mp ((T.mem _).mpr (List.mem_map.mpr ⟨e, he, rfl⟩)), (kOf_key e1).symm⟩
  let bs : List Key := vs.map fun v => kOf (0, v)
  have each : EachIs (fun v k => keyIs k v = true) vs bs := by
    have gen : ∀ l : List Value, (∀ v ∈ l, v ∈ vs) → EachIs (fun v k => keyIs k v = true) l (l.map fun v => kOf (0, v)) := by
      intro l
      induction l with
      | nil => exact fun _ => .nil
      | cons v l ih =>
        intro hl
        obtain ⟨k, hk, _, e⟩ := keyV v (hl v List.mem_cons_self)
        exact .cons (show keyIs (kOf (0, v)) v = true by rw [← e]; exact hk) (ih fun u hu' => hl u (List.mem_cons_of_mem _ hu'))
    exact gen vs fun _ z => z
  have hbm : ∀ k ∈ bs, k ∈ ks := fun k hk => by
    obtain ⟨v, hv, e⟩ := List.mem_map.mp hk
    obtain ⟨k', _, hk', e'⟩ := keyV v hv
    rw [← e, ← e']; exact hk'
  have hhb : hom bs = true := hom_perm hh hbm
  have pb : bs.Perm (dedupK ks) := by
    have p1 : bs.Perm ((es.toList.map (·.2)).map fun v => kOf (0, v)) := pm.map _
    have p2 : (es.toList.map (·.2)).map (fun v => kOf (0, v)) = es.toList.map kOf := by rw [List.map_map]; rfl
    rw [p2] at p1
    exact p1.trans (perm_of_mem T.one nodup_dedup fun k => by rw [← T.mem k, hasK_iff, mem_dedup])
  have reads : EachIs (fun v k => ∃ as, Reads (s1.heap.push (seqObj "list" vs.toArray 0)) v (encK k) as ∧ s1.heap.objs.size ∉ as) vs bs := each.mono fun v k hk => by
    rcases keyIs_shape hk with ⟨i, t, rfl, rfl⟩ | ⟨x, t, rfl, rfl⟩
    · exact ⟨[], .int i t, by simp⟩
    · exact ⟨[], .str x t, by simp⟩
  have hal : AllAlike (bs.map encK) := fun d hd d' hd' => by
    obtain ⟨k, hk, rfl⟩ := List.mem_map.mp hd
    obtain ⟨k', hk', rfl⟩ := List.mem_map.mp hd'
    rcases hom_mem hhb with z | z
    · obtain ⟨i, rfl⟩ := z k hk; obtain ⟨j, rfl⟩ := z k' hk'; rfl
    · obtain ⟨i, rfl⟩ := z k hk; obtain ⟨j, rfl⟩ := z k' hk'; rfl
  have hso : Sortable (bs.map encK) := .inr fun d hd => by
    obtain ⟨k, hk, rfl⟩ := List.mem_map.mp hd
    cases k <;> exact ⟨by simp [encK], by simp [encK]⟩
  have hbl : bs.length = vs.length := List.length_map _
  refine wpAny_bind (wpAny_holding (list_sort_data (s := { s1 with heap := s1.heap.push (seqObj "list" vs.toArray 0) }) (R := fun v k => keyIs k v = true) (enc := encK) hoL each reads hal hso (by rw [hbl]; exact hline) (fun k hk => ?_) fun out ho2 e2 => ?_))
  · have : (encK k).depth = 0 := by cases k <;> rfl
    rw [this]
    show X.A.in1.units + 1 + 0 < cLine
    have : X.A.in1.units ≤ X.A.units + 1 := Nat.le_refl _
    omega
  · obtain ⟨c, hc2⟩ := sortedHeap_at (vs := vs) (out := out.toArray) hoL
    have hp : H s1.heap.objs.size = none := I.hok.fresh hz
    have er : bs.mergeSort (dataLe false encK) = sortK (dedupK ks) := sortK_congr pb
    rw [er] at e2
    have keep : ∀ b u, s.heap.get? b = some u → (sortedHeap (s1.heap.push (seqObj "list" vs.toArray 0)) s1.heap.objs.size vs out.toArray).get? b = some u := fun b u e => by
      have q1 := k1 b u e
      have hlt := Heap.lt_size q1
      rw [sortedHeap_old (Nat.ne_of_lt hlt) (by rw [size_push']; exact Nat.lt_succ_of_lt hlt)]
      exact Heap.get?_push_of_some _ q1
    have hlen : ((sortK (dedupK ks)).map kV).length ≤ sizeLine := by
      rw [List.length_map, (sortK_perm _).length_eq, ← pb.length_eq, hbl]; exact hline
    refine wpAny_pure ⟨_, rfl, ?_⟩
    obtain ⟨h1', g1', d1', t1', os1'⟩ := s1
    obtain rfl : g1' = s.gens := g1
    obtain rfl : os1' = s.os := o1
    have hob : ObjOk X.prog X.w (upd H h1'.objs.size (.lst ((sortK (dedupK ks)).map kV))) (sortedHeap (h1'.push (seqObj "list" vs.toArray 0)) h1'.objs.size vs out.toArray) h1'.objs.size (.lst ((sortK (dedupK ks)).map kV)) := ⟨hlen, out, c, vals_keys e2, hc2⟩
    have J : Inv X pins σ (upd H h1'.objs.size (.lst ((sortK (dedupK ks)).map kV))) { s with heap := sortedHeap (h1'.push (seqObj "list" vs.toArray 0)) h1'.objs.size vs out.toArray, gens := s.gens, drawn := d1', toks := t1' } :=
      I.call (ch := []) (Un.laid keep hz hp) (I.hok.laid keep hz hob) I.bare (fun _ z => nomatch z)
    exact ⟨.ref h1'.objs.size, _, J, rfl, q _ hp⟩
end
end KS
set_option maxHeartbeats 4000000
namespace KS
open PySem PySem.Spec PyProof.Rows L2
/-! ## {elt for target in iter if ..}, elt a key -/
section
variable {X : Cx}
/-- one more member -/
def plusK (w : World) (D : Addr) (k : Key) (S : Key → Bool) (n : Nat) : HO := KO w D (fun j => S j || decide (j = k)) (if S k = true then n else n + 1)
/-- what a turn asks -/
def turnK (w : World) (D : Addr) (g : TG) (tt : TT) (te : TE) (vs : List Nat) (σ : L2.St) (Nx : Hp → Prop) (x : V) (H' : Hp) : Prop := g x (wipe σ vs) H' fun σ2 H2 => wipe σ2 vs = wipe σ vs ∧ tt σ2 H2 fun b H3 =>
  if b = true then te σ2 H3 fun y H4 => ∃ (k : Key) (S : Key → Bool) (n : Nat), y = kV k ∧ H4 D = some (KO w D S n) ∧ n + 1 < scanBound ∧ Nx (upd H4 D (plusK w D k S n)) else Nx H3
def tScK (w : World) (wi : TI) (g : TG) (tt : TT) (te : TE) (vs : List Nat) : TE := fun σ H Q => wi σ H fun J H1 => ∀ D, H1 D = none → ∃ W : Nat → Nat → Hp → Prop, (∃ m, W 0 m (upd H1 D (KO w D (fun _ => false) 0))) ∧ ∀ i m H, W i m H →
  (J.stop i H ∧ Q (.ref D) H) ∨ (J.go i H ∧ ∃ Nx : Hp → Prop, (∀ H', Nx H' → ∃ m', m' < m ∧ W (i + 1) m' H') ∧ ∀ x H', J.yld i H x H' → turnK w D g tt te vs σ Nx x H')
theorem sck_core {pins : List (Addr × Obj)} {s : Shared} {σ : L2.St} {H : Hp} {Q : VK} {elt tg iter : Expr} {ifs : List Expr} {scope : Scope} {own : List (PySem.Str × Nat)} {pos pos' : Pos} {wi : TI} {g : TG} {tt : TT} {te : TE} {use : Option (Value → Sem Unit)} {Qf : Value → Shared → Prop}
    (hc : X.calm = true) (hN : X.N.Nodup) (I : Inv X pins σ H s) (hi : PI X tg iter wi) (ok : BlkOk X.N X.env.scope scope own)
    (hg : ∀ (s : Shared) (H : Hp) (C : Addr) (cl : List (PySem.Str × Addr)) (fp : List Addr), PG (X.blk s H scope (compEnvC scope cl C X.env) fp) tg g) (ht : ∀ (s : Shared) (H : Hp) (C : Addr) (cl : List (PySem.Str × Addr)) (fp : List Addr), PTs (X.blk s H scope (compEnvC scope cl C X.env) fp) ifs tt)
    (he : ∀ (s : Shared) (H : Hp) (C : Addr) (cl : List (PySem.Str × Addr)) (fp : List Addr), PE (X.blk s H scope (compEnvC scope cl C X.env) fp) elt te) (hs : ∀ x, foldedSetIterable iter X.env x = pure x)
    (h : tScK X.w wi g tt te (own.map (·.2)) σ H Q)
    (fin : ∀ D C s' m H', Inv X pins σ H' s' → Q (.ref D) H' → s'.heap.Ns C m → FpOk X pins H' C → compPost (model X.prog X.w) X.A X.xe use Qf (.ref D) C (.ok .next) s') :
    wpAny (model X.prog X.w) X.A (comprehension (.SetComp elt [⟨tg, iter, ifs, 0⟩] scope pos) scope X.env pos' (newSet (.type "set")) false (eval iter X.env) use) Qf X.xe s := by
  refine wpAny_comprehension_free (use := use) rfl hs (closure_ok fun y hy e => ?_) ok.kind (fun y hy e => by rw [ok.uniq y hy, e]) (thn (hi.run pins s σ H _ I h) fun xv s1 hx => thn hx fun itv s2 h2 => ?_)
  · rcases ok.free y hy e with k | k
    · exact I.ok.has _ (.inl k)
    · exact I.ok.has _ (.inr k)
  obtain ⟨it, fp, tn, J, H2, rfl, I2, T, st2, f2, q⟩ := h2
  refine PpSet.newSet_ok (newEnv_comp ?_)
  generalize hD : s2.heap.objs.size = D
  have nD : H2 D = none := I2.hok.fresh (Nat.le_of_eq hD)
  obtain ⟨W, ⟨m0, w0⟩, turn⟩ := q D nD
  generalize e3 : ({ s2 with heap := s2.heap.push { cls := .type "set", dict := none, data := .set #[] 0 (.fresh 0 0 (!X.w.params.followText "set-order")) } } : Shared) = s3
  have h3 : s3.heap = s2.heap.push (fresh0 X.w) := by rw [← e3]; rfl
  have I3 : Inv X pins σ (upd H2 D (KO X.w D (fun _ => false) 0)) s3 := by
    rw [← e3]
    exact I2.laid (t' := s2.toks) (fun b o e => Heap.get?_push_of_some _ e) (Nat.le_of_eq hD) (ko_new (kset_fresh (by rw [← hD]; exact Heap.get?_push_size _ rfl)))
  have f3 : ∀ b ∈ fp, FpOk X pins (upd H2 D (KO X.w D (fun _ => false) 0)) b ∧ b < s3.heap.objs.size := fun b hb => by
    obtain ⟨o, eo, _⟩ := T.obj _ _ st2 b hb
    have hlt := Heap.lt_size eo
    refine ⟨⟨?_, (f2 b hb).2⟩, by rw [h3, Heap.size_push]; exact Nat.lt_succ_of_lt hlt⟩
    rw [upd_ne (by rw [← hD]; exact Nat.ne_of_lt hlt)]
    exact (f2 b hb).1
  have st3 : tn 0 s3.heap := T.keep _ _ _ st2 fun b _ o e => by rw [h3]; exact Heap.get?_push_of_some _ e
  have I4 := block_start I3 ok hN f3
  have pg := hg s3 (upd H2 D (KO X.w D (fun _ => false) 0)) s3.heap.objs.size (cellsFrom (s3.heap.objs.size + 1) scope.names (cloFrom X.env.cells scope.names [])) fp
  have pt := ht s3 (upd H2 D (KO X.w D (fun _ => false) 0)) s3.heap.objs.size (cellsFrom (s3.heap.objs.size + 1) scope.names (cloFrom X.env.cells scope.names [])) fp
  have pe := he s3 (upd H2 D (KO X.w D (fun _ => false) 0)) s3.heap.objs.size (cellsFrom (s3.heap.objs.size + 1) scope.names (cloFrom X.env.cells scope.names [])) fp
  show codeAny _ _ (.compStart (.SetComp elt [⟨tg, iter, ifs, 0⟩] scope pos) 0 (.ref it) (.ref D) (compEnvC scope (cellsFrom (s3.heap.objs.size + 1) scope.names (cloFrom X.env.cells scope.names [])) s3.heap.objs.size X.env)) (compPost (model X.prog X.w) X.A X.xe use Qf (.ref D) s3.heap.objs.size) { s3 with heap := pushCells (s3.heap.push { cls := .type "dict", data := .dict #[] }) scope.names }
  generalize ec : compEnvC scope (cellsFrom (s3.heap.objs.size + 1) scope.names (cloFrom X.env.cells scope.names [])) s3.heap.objs.size X.env = ce at I4 pg pt pe ⊢
  have cL : ce.locals = s3.heap.objs.size := by subst ec; rfl
  generalize eH : upd H2 D (KO X.w D (fun _ => false) 0) = H3 at I3 I4 pg pt pe w0 f3
  generalize e4 : ({ s3 with heap := pushCells (s3.heap.push { cls := .type "dict", data := .dict #[] }) scope.names } : Shared) = s4 at I4 ⊢
  have st4 : tn 0 s4.heap := T.keep _ _ _ st3 fun b _ o e => by rw [← e4]; exact pushCells_keeps _ _ _ _ (Heap.get?_push_of_some _ e)
  have stat : ∀ {τ : L2.St} {H' : Hp} {s' : Shared}, Inv (X.blk s3 H3 scope ce fp) [] τ H' s' → (∀ b ∈ fp, H' b = none) → ∀ b ∈ fp, FpOk (X.blk s3 H3 scope ce fp) [] H' b := fun {τ H' s'} J' hn b hb =>
    ⟨hn b hb, (J'.ok.exf b hb).1, J'.ok.exfs b hb, .inl hb, fun x c e => (J'.ok.exf b hb).2 x c e, fun p hp => absurd (show p ∈ ([] : List (Addr × Obj)) ++ [] from hp) (by simp)⟩
  have loop : codeAny (model X.prog X.w) X.A (.compLoop (.SetComp elt [⟨tg, iter, ifs, 0⟩] scope pos) 0 (.ref it) (.ref D) ce) (compPost (model X.prog X.w) X.A X.xe use Qf (.ref D) s3.heap.objs.size) s4 := by
    refine PpSet.compLoopS_any (fun n s' => ∃ i H', Inv (X.blk s3 H3 scope ce fp) [] (wipe σ (own.map (·.2))) H' s' ∧ tn i s'.heap ∧ (∀ b ∈ fp, H' b = none) ∧ W i n H') ?_ m0 ⟨0, H3, I4, st4, fun b hb => (f3 b hb).1.1, w0⟩
    rintro n s5 ⟨i, H5, I5, st5, n5, w5⟩
    rcases turn i n H5 w5 with ⟨stop, qq⟩ | ⟨go, Nx, hNx, step⟩
    · refine thnF (T.done (X.blk s3 H3 scope ce fp) rfl rfl rfl hc i [] s5 _ H5 (fun _ _ => False) I5 (stat I5 n5) st5 stop) fun r s6 ⟨hr, I6⟩ => ?_
      subst hr
      have I7 : Inv X pins σ H5 s6 := I3.call' (ch := fp) I6.os I6.base I6.hok I6.bare fun b hb => ⟨(f3 b hb).1.2.2.2.1, (f3 b hb).1.2.1, (f3 b hb).1.2.2.2.2.1, (f3 b hb).1.2.2.2.2.2⟩
      have nC : H5 s3.heap.objs.size = none := by
        have z : H5 ce.locals = none := I6.free
        rwa [cL] at z
      obtain ⟨m, hm, _⟩ := I6.loc
      have hm' : s6.heap.Ns ce.locals m := hm
      rw [cL] at hm'
      exact fin D s3.heap.objs.size s6 m H5 I7 qq hm' (I3.fpOk (Nat.le_refl _) nC)
    · refine thnF (T.item (X.blk s3 H3 scope ce fp) rfl rfl rfl hc i [] s5 _ H5 (fun _ _ => False) I5 (stat I5 n5) st5 go) fun r s6 ⟨u, hr, h6⟩ => ?_
      subst hr
      refine thnF h6 fun _ s7 ⟨x, H7, I7, r7, y7, st7, n7⟩ => ?_
      refine thnF (pg.run _ s7 _ H7 x u _ (I7.pinned (stat I7 n7) (T.obj _ _ st7)) r7 (step x H7 y7)) fun _ s8 ⟨σ8, H8, I8, hw8, q8⟩ => ?_
      refine thnF (pt.run _ s8 σ8 H8 _ I8 q8) fun b s9 ⟨H9, I9, q9⟩ => ?_
      have back : ∀ {s' : Shared} {H' : Hp}, Inv (X.blk s3 H3 scope ce fp) ([] ++ pinsAt fp s7.heap) σ8 H' s' → Nx H' → ∃ m, m < n ∧ ∃ i H', Inv (X.blk s3 H3 scope ce fp) [] (wipe σ (own.map (·.2))) H' s' ∧ tn i s'.heap ∧ (∀ b ∈ fp, H' b = none) ∧ W i m H' := fun {s' H'} J' nx => by
        obtain ⟨m', hlt, w'⟩ := hNx H' nx
        have pin' : ∀ b ∈ fp, ∀ o, s7.heap.get? b = some o → s'.heap.get? b = some o ∧ H' b = none := fun b hb o e =>
          let z := J'.pin (b, o) (List.mem_append_right _ (List.mem_append_right _ (mem_pinsAt hb e)))
          ⟨z.1, z.2.1⟩
        refine ⟨m', hlt, i + 1, H', (J'.unpinned (pins := [])).weak (by rw [← hw8, wipe_length]) (fun j v e => (wipe_some (hw8 ▸ e)).1), T.keep _ _ _ st7 fun b hb o e => (pin' b hb o e).1, fun b hb => ?_, w'⟩
        obtain ⟨o, e, _⟩ := T.obj _ _ st7 b hb
        exact (pin' b hb o e).2
      cases b with
      | false => exact back I9 q9
      | true =>
        simp only [if_true] at q9 ⊢
        refine thnF (pe.run _ s9 σ8 H9 _ I9 q9) fun z s10 ⟨yv, H10, I10, r10, k, S0, n0, ey, hD10, hz10, nx⟩ => ?_
        subst ey
        exact ko_add (X := X.blk s3 H3 scope ce fp) I10 r10 hD10 hz10 fun s11 I11 => back I11 nx
  exact PpSet.codeAny_compStart_set loop (T.self X.A 0 _ _ _ st4 loop)
theorem pe_scK {elt tg iter : Expr} {ifs : List Expr} {scope : Scope} {own : List (PySem.Str × Nat)} {pos : Pos} {wi : TI} {g : TG} {tt : TT} {te : TE} (hc : X.calm = true) (hN : X.N.Nodup) (hi : PI X tg iter wi) (ok : BlkOk X.N X.env.scope scope own)
    (hg : ∀ (s : Shared) (H : Hp) (C : Addr) (cl : List (PySem.Str × Addr)) (fp : List Addr), PG (X.blk s H scope (compEnvC scope cl C X.env) fp) tg g) (ht : ∀ (s : Shared) (H : Hp) (C : Addr) (cl : List (PySem.Str × Addr)) (fp : List Addr), PTs (X.blk s H scope (compEnvC scope cl C X.env) fp) ifs tt)
    (he : ∀ (s : Shared) (H : Hp) (C : Addr) (cl : List (PySem.Str × Addr)) (fp : List Addr), PE (X.blk s H scope (compEnvC scope cl C X.env) fp) elt te) (hs : ∀ x, foldedSetIterable iter X.env x = pure x := by intro _; rfl) :
    PE X (.SetComp elt [⟨tg, iter, ifs, 0⟩] scope pos) (tScK X.w wi g tt te (own.map (·.2))) := by
  refine ⟨fun pins s σ H Q I h => ?_⟩
  rw [PpSet.eval_SetComp]
  refine sck_core hc hN I hi ok hg ht he hs h fun D C s' m H' I' q hn f => ⟨m, hn, fun h'' sb => ?_⟩
  obtain ⟨f0, f1, f2, f3, f4, f5⟩ := f
  exact ⟨.ref D, H', I'.turned (t' := s'.toks) (fun b o hb e => (sb.2 b hb).trans e) f0 f1 f3 f4 f5, rfl, q⟩
end
end KS
set_option maxHeartbeats 1000000
namespace Mir
open PySem PySem.Spec PyProof.Rows L2
/-! ## ways of walking -/
section
variable {K : KW} {E : XK} {c : Fm} {σ σ' : L2.St} {H H' : Hp} {W W' : Wd} {r r' : RE}
@[simp] def seqI : D → Option (List D)
  | .lst ds => some ds
  | .frl ds => some ds
  | .tup ds => some ds
  | _ => none
def iSeq (K : PySem.W.Frag) (te : TE) : TI := fun σ H R => iList K te σ H R ∨ iTup K te σ H R
theorem pi_orI {X : Cx} {tg it : PySem.Expr} {t u : TI} (h : PI X tg it t) (k : PI X tg it u) : PI X tg it (fun σ H R => t σ H R ∨ u σ H R) := ⟨fun pins s σ H R I q => q.elim (fun q => h.run pins s σ H R I q) fun q => k.run pins s σ H R I q⟩
theorem pi_seq {X : Cx} {tg e : PySem.Expr} {te : TE} (h : PE X e te) : PI X tg e (iSeq X.K te) := pi_orI (pi_list h) (pi_tup h)
theorem yields_at {ds : List D} {vs : List V} (hl : RepL K W ds vs) : Yields K W ds (YAt vs) := by
  rintro i H2 W2 x H3 s1 s2 hi ⟨rfl, hx⟩
  obtain ⟨d, e, hd⟩ := repL_get hl hx
  exact ⟨W2, d, Ext.refl s1, e, hd.mono s2⟩
theorem Walk.mono {J : It} {n : Nat} {G G' : Hp → Prop} {Y : Nat → Hp → V → Hp → Prop} (w : Walk J n G Y) (h : ∀ H, G' H → G H) : Walk J n G' Y := ⟨fun i H hi g => w.goes i H hi (h H g), fun H g => w.stops H (h H g), fun i H x H' hi g y => w.yields i H x H' hi (h H g) y⟩
theorem wk_seq : WK K (iSeq K) seqI where
  ni := fun C fs => by simp
  lk := fun d ds W u a od hi hf => by
    cases d <;> simp only [Fits] at hf <;> simp only [seqI, reduceCtorEq, Option.some.injEq] at hi
    subst hi
    obtain ⟨us, rfl, hl⟩ := hf
    refine ⟨Itl K a, YAt us, fun te σ H R hat hH q => .inl (hat _ ⟨a, rfl, ⟨us, .inl (.inr ⟨od, hH⟩)⟩, q⟩), ?_, yields_at hl⟩
    rw [repL_len hl]
    exact Walk.mono walk_list fun H z => .inl (.inr ⟨od, z⟩)
  fz := fun d ds W v hi hv => by
    refine .inr ?_
    cases d <;> simp only [seqI, reduceCtorEq, Option.some.injEq] at hi <;> subst hi <;> simp only [RepD] at hv <;> obtain ⟨a, us, rfl, hq, hl⟩ := hv
    · refine ⟨Itt K a, fun H => SqT K H a us, YAt us, fun te σ H R s hat q => .inr (hat _ ⟨a, rfl, ⟨us, SqT.of (s.tup hq)⟩, q⟩), by rw [repL_len hl]; exact walk_tup, fun W2 H2 s2 s3 => SqT.of (s3.tup (s2.s.tup hq)), yields_at hl⟩
    · refine ⟨Itl K a, fun H => SqL K H a us, YAt us, fun te σ H R s hat q => .inl (hat _ ⟨a, rfl, ⟨us, SqL.of (s.lst hq)⟩, q⟩), by rw [repL_len hl]; exact walk_list, fun W2 H2 s2 s3 => SqL.of (s3.lst (s2.s.lst hq)), yields_at hl⟩
    · refine ⟨Itl K a, fun H => SqL K H a us, YAt us, fun te σ H R s hat q => .inl (hat _ ⟨a, rfl, ⟨us, s.sqL hq⟩, q⟩), by rw [repL_len hl]; exact walk_list, fun W2 H2 s2 s3 => s3.sqL (s2.s.sqL hq), yields_at hl⟩
/-! dicts -/
@[simp] def kvKey' : List Key × D → D := fun kv => .tup (kv.1.map ofKey)
@[simp] def keysI : D → Option (List D)
  | .dic kvs => some (kvs.map kvKey)
  | _ => none
@[simp] def valsI : D → Option (List D)
  | .dic kvs => some (kvs.map kvVal)
  | _ => none
@[simp] def itemsI : D → Option (List D)
  | .dic kvs => some (kvs.map kvPair)
  | _ => none
theorem repG_get {κ : Type} : ∀ {ds : List (κ × D)} {vs : List (κ × V)} {j : Nat} {k : κ} {v : V}, RepG K W ds vs → vs[j]? = some (k, v) → ∃ d, ds[j]? = some (k, d) ∧ RepD K W d v
  | [], vs, j, k, v, h, e => by simp only [RepG] at h; subst h; simp at e
  | (k', d) :: ds, vs, 0, k, v, h, e => by
    simp only [RepG] at h
    obtain ⟨u, us, ev, q, l⟩ := h
    subst ev
    simp at e
    obtain ⟨rfl, rfl⟩ := e
    exact ⟨d, rfl, q⟩
  | (k', d) :: ds, vs, j + 1, k, v, h, e => by
    simp only [RepG] at h
    obtain ⟨u, us, ev, q, l⟩ := h
    subst ev
    simp at e
    obtain ⟨d', h1, h2⟩ := repG_get (j := j) l e
    exact ⟨d', by simpa using h1, h2⟩
theorem repL_ofKeys : ∀ {ks : List Key}, RepL K W (ks.map ofKey) (ks.map kV)
  | [] => by simp only [List.map_nil, RepL]
  | k :: ks => by
    simp only [List.map_cons, RepL]
    exact ⟨_, _, rfl, repD_key, repL_ofKeys⟩
theorem fz_dict {d : D} {ds : List D} {items : D → Option (List D)} {v : V} (ho : ∀ d ds, items d = some ds → isDic d = true) (hi : items d = some ds) (hv : RepD K W d v) : ∃ a u, v = .ref a ∧ Rd W.g a u ∧ isDict u = true ∧ Fits K W a d u := by
  have := ho d ds hi
  cases d <;> simp only [isDic, reduceCtorEq, Bool.false_eq_true] at this <;> simp only [RepD] at hv <;> obtain ⟨a, us, rfl, hq, hl⟩ := hv
  · exact ⟨a, _, rfl, hq, rfl, ⟨us, rfl, hl⟩⟩
  · exact ⟨a, _, rfl, hq, rfl, ⟨us, rfl, hl⟩⟩
theorem isDic_keys {d : D} {ds : List D} (h : keysI d = some ds) : isDic d = true := by cases d <;> first | rfl | cases h
theorem isDic_vals {d : D} {ds : List D} (h : valsI d = some ds) : isDic d = true := by cases d <;> first | rfl | cases h
theorem isDic_items {d : D} {ds : List D} (h : itemsI d = some ds) : isDic d = true := by cases d <;> first | rfl | cases h
theorem wk_vals : WK K iVals valsI where
  ni := fun C fs => by simp
  lk := fun d ds W u a od hi hf => by
    cases d <;> simp only [Fits] at hf <;> simp only [valsI, reduceCtorEq, Option.some.injEq] at hi
    subst hi
    obtain ⟨us, rfl, hl⟩ := hf
    refine ⟨Itd a od us, _, fun te σ H R hat hH q => hat _ ⟨a, od, us, rfl, hH, q⟩, by rw [List.length_map, repK_len hl]; exact walk_values, ?_⟩
    rintro j H2 W2 x H3 s1 s2 hj ⟨rfl, k, hkv⟩
    obtain ⟨d, hd, hr⟩ := repG_get (repK_g.mp hl) hkv
    exact ⟨W2, d, Ext.refl s1, by rw [List.getElem?_map, hd]; rfl, hr.mono s2⟩
  fz := fun d ds W v hi hv => .inl (fz_dict (fun _ _ => isDic_vals) hi hv)
theorem wk_items : WK K iItems itemsI where
  ni := fun C fs => by simp
  lk := fun d ds W u a od hi hf => by
    cases d <;> simp only [Fits] at hf <;> simp only [itemsI, reduceCtorEq, Option.some.injEq] at hi
    subst hi
    obtain ⟨us, rfl, hl⟩ := hf
    refine ⟨Iti a od us, _, fun te σ H R hat hH q => hat _ ⟨a, od, us, rfl, hH, q⟩, by rw [List.length_map, repK_len hl]; exact walk_items, ?_⟩
    rintro j H2 W2 x H3 s1 s2 hj ⟨T, kx, vx, rfl, hT, rfl, ek, ev⟩
    have hj' : j < us.length := by rw [List.length_map, repK_len hl] at hj; exact hj
    obtain ⟨⟨k, v⟩, hkv⟩ : ∃ p, us[j]? = some p := ⟨us[j], List.getElem?_eq_getElem hj'⟩
    simp only [hkv, Option.map_some, Option.some.injEq] at ek ev
    subst ek ev
    obtain ⟨d, hd, hr⟩ := repG_get (repK_g.mp hl) hkv
    obtain ⟨W3, ex, h3⟩ := pair_new (K := K) s1 hT (repD_key (k := k)) (hr.mono s2)
    exact ⟨W3, _, ex, by rw [List.getElem?_map, hd]; rfl, h3⟩
  fz := fun d ds W v hi hv => .inl (fz_dict (fun _ _ => isDic_items) hi hv)
theorem wk_keys : WK K iKeys keysI where
  ni := fun C fs => by simp
  lk := fun d ds W u a od hi hf => by
    cases d <;> simp only [Fits] at hf <;> simp only [keysI, reduceCtorEq, Option.some.injEq] at hi
    · subst hi
      obtain ⟨us, rfl, hl⟩ := hf
      refine ⟨Itk a od us, _, fun te σ H R hat hH q => hat _ ⟨a, od, rfl, .inl ⟨us, hH, q⟩⟩, by rw [List.length_map, repK_len hl]; exact walk_keys, ?_⟩
      rintro j H2 W2 x H3 s1 s2 hj ⟨rfl, k, v, hkv, rfl⟩
      obtain ⟨d, hd, hr⟩ := repG_get (repK_g.mp hl) hkv
      exact ⟨W2, ofKey k, Ext.refl s1, by rw [List.getElem?_map, hd]; rfl, repD_key⟩
  fz := fun d ds W v hi hv => .inl (fz_dict (fun _ _ => isDic_keys) hi hv)
end
end Mir
set_option maxHeartbeats 4000000
/-! enumerate over a tuple -/
set_option maxHeartbeats 1000000
namespace Mir
open PySem PySem.Spec PyProof.Rows L2
/-! ## comprehensions of any kind -/
section
variable {K : KW} {E : XK} {c : Fm} {σ σ' : L2.St} {H H' : Hp} {W W' : Wd} {r r' : RE} {α : Type}
structure FreshA (A : Addr → α → Wd → HO → Prop) (c : Fm) (H : Hp) (W : Wd) (x : α) (a : Addr) : Prop where
  g : W.g a = none
  e : c.He a = none
  n : a ∉ W.b
  o : ∃ u, H a = some u ∧ A a x W u
def SndG (K : KW) (E : XK) (A : Addr → α → Wd → HO → Prop) (te : TE) (m : RE → Out (α × RE)) : Prop := ∀ (c : Fm) (σ : L2.St) (H : Hp) (W : Wd) (r : RE) (Q : VK), RR K c σ H W r →
  Wp (m r) (fun p => ∀ a H' W', RR K c σ H' W' p.2 → Le W W' → FreshA A c H' W' p.1 a → Q (.ref a) H') (XP K c E) → te σ H Q
def mCompG (s0 : List (Option D)) (st : D → RE → Option RE) (mt : RE → Out (Bool × RE)) (ma : RE → Out (List D × RE)) (app : List D → α → Option α) : List D → Sto → α → Out (α × Sto)
  | [], so, acc => .ok (acc, so)
  | x :: xs, so, acc => match st x ⟨s0, so⟩ with
    | none => .stuck
    | some r1 => (mt r1).bnd fun p => if p.1 = true then (ma p.2).bnd fun q => match app q.1 acc with
        | some a => mCompG s0 st mt ma app xs q.2.st a
        | none => .stuck
      else mCompG s0 st mt ma app xs p.2.st acc
def turnG (g : TG) (tt : TT) (ta : TA) (fin : List V → Hp → (Hp → Prop) → Prop) (vs : List Nat) (σ : L2.St) (Nx : Hp → Prop) (x : V) (H' : Hp) : Prop := g x (L2.wipe σ vs) H' fun σ2 H2 => L2.wipe σ2 vs = L2.wipe σ vs ∧ tt σ2 H2 fun b H3 =>
  if b = true then ta σ2 H3 fun us H4 => fin us H4 Nx else Nx H3
def tCG (wi : TI) (g : TG) (tt : TT) (ta : TA) (fin : Addr → List V → Hp → (Hp → Prop) → Prop) (o0 : Addr → HO) (vs : List Nat) : TE := fun σ H Q => wi σ H fun J H1 => ∀ D, H1 D = none → ∃ W : Nat → Nat → Hp → Prop, (∃ m, W 0 m (upd H1 D (o0 D))) ∧ ∀ i m H, W i m H →
  (J.stop i H ∧ Q (.ref D) H) ∨ (J.go i H ∧ ∃ Nx : Hp → Prop, (∀ H', Nx H' → ∃ m', m' < m ∧ W (i + 1) m' H') ∧ ∀ x H', J.yld i H x H' → turnG g tt ta (fin D) vs σ Nx x H')
theorem it_gen {J : It} {n : Nat} {G : Hp → Prop} {Y : Nat → Hp → V → Hp → Prop} (wk : Walk J n G Y) {turn : (Hp → Prop) → V → Hp → Prop} {H0 : Hp} {Qd : Hp → Prop} (Pv : Nat → Hp → Prop) (h0 : Pv 0 H0) (hG : ∀ i H, i ≤ n → Pv i H → G H)
    (hs : ∀ i x H H', i < n → Pv i H → Y i H x H' → turn (Pv (i + 1)) x H') (hd : ∀ H, Pv n H → Qd H) :
    ∃ W : Nat → Nat → Hp → Prop, (∃ m, W 0 m H0) ∧ ∀ i m H, W i m H → (J.stop i H ∧ Qd H) ∨ (J.go i H ∧ ∃ Nx : Hp → Prop, (∀ H', Nx H' → ∃ m', m' < m ∧ W (i + 1) m' H') ∧ ∀ x H', J.yld i H x H' → turn Nx x H') := by
  refine ⟨fun i m H => m = n - i ∧ i ≤ n ∧ Pv i H, ⟨n, by simp, Nat.zero_le _, h0⟩, ?_⟩
  rintro i m H ⟨rfl, hi, p⟩
  have q := hG i H hi p
  by_cases hlt : i < n
  · exact .inr ⟨wk.goes i H hlt q, Pv (i + 1), fun H' p' => ⟨n - (i + 1), by omega, rfl, hlt, p'⟩, fun x H' y => hs i x H H' hlt p (wk.yields i H x H' hlt q y)⟩
  · obtain rfl : i = n := by omega
    exact .inl ⟨wk.stops H q, hd H p⟩
/-- how a kind of comprehension collects -/
structure Collects (K : KW) (A : Addr → α → Wd → HO → Prop) (app : List D → α → Option α) (fin : Addr → List V → Hp → (Hp → Prop) → Prop) (o0 : Addr → HO) (a0 : α) : Prop where
  mono : ∀ a x W W' u, Le W W' → A a x W u → A a x W' u
  zero : ∀ a W, A a a0 W (o0 a)
  put : ∀ a x x' ds vs W H u (Nx : Hp → Prop), Sub W.g H → A a x W u → H a = some u → RepL K W ds vs → app ds x = some x' → (∀ u', A a x' W u' → Nx (upd H a u')) → fin a vs H Nx
theorem compG_core {A : Addr → α → Wd → HO → Prop} {app : List D → α → Option α} {fin : Addr → List V → Hp → (Hp → Prop) → Prop} {o0 : Addr → HO} {a0 : α} (co : Collects K A app fin o0 a0)
    {J : It} {Gp : Hp → Prop} {Y : Nat → Hp → V → Hp → Prop} {ds : List D} {g : TG} {tt : TT} {ta : TA} {vs : List Nat} {st : D → RE → Option RE} {mt : RE → Out (Bool × RE)} {ma : RE → Out (List D × RE)} {Dn : Addr} {Qd : Hp → Prop}
    (hgv : GV g vs) (hg : GS K E g st) (ht : SndT K E tt mt) (he : SndA K E ta ma) (R1 : RR K c σ H W r) (wk : Walk J ds.length Gp Y)
    (hG : ∀ (σ2 : L2.St) (H2 : Hp) (W2 : Wd) (r2 : RE), RR K c σ2 H2 W2 r2 → Le W W2 → Gp H2) (hY : Yields K W ds Y)
    (hDn : H Dn = none) (w : Wp (mCompG (wipeL r.s vs) st mt ma app ds r.st a0) (fun q => ∀ H' W', RR K c σ H' W' ⟨r.s, q.2⟩ → Le W W' → FreshA A c H' W' q.1 Dn → Qd H') (XP K c E)) :
    ∃ Wt : Nat → Nat → Hp → Prop, (∃ m, Wt 0 m (upd H Dn (o0 Dn))) ∧ ∀ i m H, Wt i m H →
      (J.stop i H ∧ Qd H) ∨ (J.go i H ∧ ∃ Nx : Hp → Prop, (∀ H', Nx H' → ∃ m', m' < m ∧ Wt (i + 1) m' H') ∧ ∀ x H', J.yld i H x H' → turnG g tt ta (fin Dn) vs σ Nx x H') := by
  have heD : c.He Dn = none := R1.heNone hDn
  have hbD : Dn ∉ W.b := fun z => R1.there z hDn
  have hlD : ∀ q ∈ c.lk, q.1 ≠ Dn := fun q hq z => by have := R1.lk q hq; rw [z, hDn] at this; cases this
  refine it_gen wk (fun i H2 => ∃ W2 so acc av, RR K c (L2.wipe σ vs) H2 W2 ⟨wipeL r.s vs, so⟩ ∧ Le W W2 ∧ H2 Dn = some av ∧ W2.g Dn = none ∧ Dn ∉ W2.b ∧ A Dn acc W2 av ∧
    Wp (mCompG (wipeL r.s vs) st mt ma app (ds.drop i) so acc) (fun q => ∀ H' W', RR K c σ H' W' ⟨r.s, q.2⟩ → Le W W' → FreshA A c H' W' q.1 Dn → Qd H') (XP K c E)) ?_ ?_ ?_ ?_
  · refine ⟨W, r.st, a0, o0 Dn, RR.other (R1.wipe vs) (R1.gh.no hDn) heD hbD hlD, Le.refl W, upd_same, R1.gh.no hDn, hbD, co.zero Dn W, ?_⟩
    rw [List.drop_zero]
    exact w
  · rintro i H2 hin ⟨W2, so, acc, av, R2, s2, _⟩
    exact hG _ H2 W2 _ R2 s2
  · rintro i x H2 H3 hlt ⟨W2, so, acc, av, R2, s2, hD, hGD, hbD2, hacc, q2⟩ y
    obtain ⟨W3, d, x3, e3, h3⟩ := hY i H2 W2 x H3 R2.gh s2 hlt y
    have R3 := R2.ext x3
    have hD3 : H3 Dn = some av := x3.keep _ _ hD
    have hb3 : Dn ∉ W3.b := by rw [x3.bb]; exact hbD2
    have hGD3 : W3.g Dn = none := by
      cases q : W3.g Dn with
      | none => rfl
      | some u =>
        rcases x3.new Dn u q with z | z
        · exact absurd hGD z
        · rw [hD] at z; cases z
    have ed : ds.drop i = d :: ds.drop (i + 1) := by
      obtain ⟨hi', he⟩ := List.getElem?_eq_some_iff.mp e3
      rw [← he]
      exact List.drop_eq_getElem_cons hi'
    rw [ed] at q2
    simp only [mCompG] at q2
    cases e4 : st d ⟨wipeL r.s vs, so⟩ with
    | none => simp only [e4] at q2; exact q2.elim
    | some r3 =>
      simp only [e4] at q2
      have RE3 := R3.enter
      refine hgv x (L2.wipe σ vs) H3 (fun σ2 H' => H' = H3 ∧ RR K (nest c H3 W3) σ2 H3 W3 r3) _ (fun σ2 H' ⟨eH, R4⟩ eσ => ?_) (hg _ x d _ H3 W3 _ r3 _ RE3 h3 e4 fun σ2 R4 => ⟨rfl, R4⟩)
      subst eH
      have eσ' : L2.wipe σ2 vs = L2.wipe σ vs := eσ.trans (wipe_wipe vs σ)
      refine ⟨eσ', ?_⟩
      refine ht _ σ2 H' W3 r3 _ R4 ((Wp.bnd q2).mono (fun p2 q3 H4 W4 R5 s4 => ?_) fun x st hx => XP.nest R3 hx)
      have wipeBack : ∀ {H5 : Hp} {W5 : Wd} {r5 : RE}, RR K (nest c H' W3) σ2 H5 W5 r5 → RR K c (L2.wipe σ vs) H5 W5 ⟨wipeL r.s vs, r5.st⟩ ∧ H5 Dn = some av ∧ W5.g Dn = none ∧ Dn ∉ W5.b := fun {H5 W5 r5} R6 => by
        have R7 := RR.leave R3 R6
        have R8 := RR.old R2 (x3.sub.trans R6.g0) R7
        obtain ⟨k3, _⟩ := R6.ke Dn _ hD3
        refine ⟨R8, (k3 hb3).2 hGD3, ?_, fun z => ?_⟩
        · cases q : W5.g Dn with
          | none => rfl
          | some u =>
            rcases R6.gr Dn u q with z | z
            · exact absurd hGD3 z
            · have z' : H' Dn = none := z
              rw [hD3] at z'; cases z'
        · rcases (R6.cg Dn z).2 with y | y
          · exact hb3 y
          · have y' : H' Dn = none := y
            rw [hD3] at y'; cases y'
      by_cases hb : p2.1 = true
      · rw [if_pos hb] at q3 ⊢
        refine he _ σ2 H4 W4 p2.2 _ R5 ((Wp.bnd q3).mono (fun p3 q4 us H5 W5 R6 s5 h5 => ?_) fun x st hx => XP.nest R3 hx)
        obtain ⟨R8, hD5, hG5, hB5⟩ := wipeBack R6
        have le5 : Le W2 W5 := (x3.sub.trans s4).trans s5
        split at q4
        · rename_i acc' ea
          exact co.put Dn acc acc' p3.1 us W5 H5 av _ R8.gh (co.mono _ _ _ _ _ le5 hacc) hD5 h5 ea fun u' hA => ⟨W5, p3.2.st, acc', u', RR.other R8 hG5 heD hB5 hlD, s2.trans le5, upd_same, hG5, hB5, hA, q4⟩
        · exact q4.elim
      · rw [if_neg hb] at q3 ⊢
        obtain ⟨R8, hD5, hG5, hB5⟩ := wipeBack R5
        exact ⟨W4, p2.2.st, acc, av, R8, (s2.trans x3.sub).trans s4, hD5, hG5, hB5, co.mono _ _ _ _ _ (x3.sub.trans s4) hacc, q3⟩
  · rintro H2 ⟨W2, so, acc, av, R2, s2, hD, hGD, hB, hacc, q2⟩
    rw [List.drop_length] at q2
    exact q2 H2 W2 (RR.old R1 s2 R2) s2 ⟨hGD, heD, hB, av, hD, hacc⟩
@[simp] def mCG (vs : List Nat) (mi : RE → Out (List D × RE)) (st : D → RE → Option RE) (mt : RE → Out (Bool × RE)) (ma : RE → Out (List D × RE)) (app : List D → α → Option α) (a0 : α) : RE → Out (α × RE) := fun r => (mi r).bnd fun p => (mCompG (wipeL p.2.s vs) st mt ma app p.1 p.2.st a0).bnd fun q => .ok (q.1, ⟨p.2.s, q.2⟩)
@[simp] def mCGW (items : D → Option (List D)) (vs : List Nat) (m : RE → Out (D × RE)) (st : D → RE → Option RE) (mt : RE → Out (Bool × RE)) (ma : RE → Out (List D × RE)) (app : List D → α → Option α) (a0 : α) : RE → Out (α × RE) := fun r => (m r).bnd fun p => match mWalked items p.2 p.1 with
  | some (ds, r', none) => (mCompG (wipeL r'.s vs) st mt ma app ds r'.st a0).bnd fun q => .ok (q.1, ⟨r'.s, q.2⟩)
  | some (ds, r', some (k, e)) => (mCompG (wipeL r'.s vs) st mt ma app ds r'.st a0).bnd fun q => .ok (q.1, ⟨r'.s, q.2.set k e⟩)
  | none => .stuck
theorem sndg_compW {A : Addr → α → Wd → HO → Prop} {app : List D → α → Option α} {fin : Addr → List V → Hp → (Hp → Prop) → Prop} {o0 : Addr → HO} {a0 : α} (co : Collects K A app fin o0 a0) {wi : TE → TI} {items : D → Option (List D)} {ti : TE} {m : RE → Out (D × RE)} {g : TG} {tt : TT} {ta : TA} {vs : List Nat} {st : D → RE → Option RE} {mt : RE → Out (Bool × RE)} {ma : RE → Out (List D × RE)} (wk : WK K wi items) (hp : SndPath K ti m) (nx : ∀ r x s, m r ≠ .exc x s)
    (hgv : GV g vs) (hg : GS K E g st) (ht : SndT K E tt mt) (he : SndA K E ta ma) : SndG K E A (tOrE (tLockE (tCG (wi ti) g tt ta fin o0 vs)) (tCG (wi ti) g tt ta fin o0 vs)) (mCGW items vs m st mt ma app a0) := fun c σ H W r Q R w => by
  unfold mCGW at w
  cases e : m r with
  | exc x s0 => exact absurd e (nx _ _ _)
  | stuck => rw [e] at w; exact w.elim
  | ok p =>
    obtain ⟨d, r0⟩ := p
    rw [e, bnd_ok] at w
    cases ew : mWalked items r0 d with
    | none => simp only [ew] at w; exact w.elim
    | some t =>
      obtain ⟨ds, r1, o⟩ := t
      have hw := how wk hp R e ew
      have q : Wp (mCompG (wipeL r1.s vs) st mt ma app ds r1.st a0) (fun q => ∀ a H' W', RR K c σ H' W' (freeR o ⟨r1.s, q.2⟩) → Le W W' → FreshA A c H' W' q.1 a → Q (.ref a) H') (XP K c E) := by
        cases o with
        | none => simp only [ew] at w; exact (Wp.bnd w).mono (fun f z => z) fun _ _ x => x
        | some p =>
          obtain ⟨k, d0⟩ := p
          simp only [ew] at w
          exact (Wp.bnd w).mono (fun f z => z) fun _ _ x => x
      cases hw with
      | plain R1 hc hx go w1 hG hY =>
        refine .inr (go _ fun Dn hDn => ?_)
        exact compG_core co (Qd := fun H' => Q (.ref Dn) H') hgv hg ht he R1 w1 hG hY hDn (q.mono (fun q2 z H' W' R2 s2 f => z Dn H' W' (hc R2) s2 ⟨f.g, R.heNone hDn, f.n, f.o⟩) fun _ _ x => hx x)
      | lock hH mu go back =>
        refine .inl ⟨_, _, hH, mu, fun od => ?_⟩
        obtain ⟨J, Gp, Y, R1, hx, go', w1, hG, hY⟩ := go od
        refine go' _ fun Dn hDn => ?_
        refine compG_core co (Qd := fun H' => H' _ = some (.frz od _) ∧ Q (.ref Dn) (upd H' _ _)) hgv hg ht he R1 w1 hG hY hDn (q.mono (fun q2 z H' W' R2 s2 f => ?_) fun _ _ x => hx x)
        obtain ⟨b1, b2⟩ := back od R2 s2
        obtain ⟨u, fu, fA⟩ := f.o
        refine ⟨b1, z Dn _ W' (by cases o <;> exact b2) s2 ⟨f.g, f.e, f.n, u, ?_, fA⟩⟩
        rw [upd_ne]
        · exact fu
        · intro y
          rw [y, upd_same] at hDn
          cases hDn
/-! ### dicts -/
def aDic (K : KW) : Addr → List (Key × D) → Wd → HO → Prop := fun _ kvs W u => ∃ us, u = .dK us ∧ RepK K W kvs us
@[simp] def appD : List D → List (Key × D) → Option (List (Key × D))
  | [k, v], acc => if acc.length < 1000000 then (keyD k).map fun key => putD acc key v else none
  | _, _ => none
def finD (Dn : Addr) : List V → Hp → (Hp → Prop) → Prop
  | [y, z], H5, Nx => ∃ kvs k, y = kV k ∧ H5 Dn = some (.dK kvs) ∧ kvs.length < sizeLine ∧ Nx (upd H5 Dn (.dK (putK kvs k z)))
  | _, _, _ => False
theorem collects_dic : Collects K (aDic K) appD finD (fun _ => .dK []) [] where
  mono := fun a x W W' u s h => let ⟨us, e, q⟩ := h; ⟨us, e, q.mono s⟩
  zero := fun a W => ⟨[], rfl, by simp only [RepK]⟩
  put := fun a x x' ds vs W H u Nx s h hH hl e k => by
    obtain ⟨us, rfl, hr⟩ := h
    unfold appD at e
    split at e
    · rename_i dk dv
      split at e
      · rename_i hz
        obtain ⟨key, ek, rfl⟩ := Option.map_eq_some_iff.mp e
        simp only [RepL] at hl
        obtain ⟨y, r1, rfl, hy, z, r2, rfl, hz', rfl⟩ := hl
        have hkey := keyD_rep ek hy
        subst hkey
        exact ⟨us, key, rfl, hH, lim_lt (by rw [← repK_len hr]; exact hz), k _ ⟨_, rfl, repK_put hz' hr⟩⟩
      · cases e
    · cases e
theorem sndf_of_g {te : TE} {m : RE → Out (List (Key × D) × RE)} (h : SndG K E (aDic K) te m) : SndF K E te (fun r => (m r).bnd fun p => .ok (.dic p.1, p.2)) := fun c σ H W r Q R w => by
  refine h c σ H W r Q R ((Wp.bnd w).mono (fun p q a H' W' R' s f => ?_) fun _ _ x => x)
  obtain ⟨u, fu, us, rfl, fr⟩ := f.o
  exact q a H' W' R' s ⟨f.g, f.e, f.n, ⟨a, us, rfl, fu, fr⟩⟩
end
end Mir
set_option maxHeartbeats 1000000
namespace Mir
open PySem PySem.W PySem.Spec PyProof.Rows L2
/-! ## sets of keys, for the while of an expression -/
section
variable {K : KW} {E : XK} {c : Fm} {σ σ' : L2.St} {H H' : Hp} {W W' : Wd} {r r' : RE} {w : World}
def aKs (w : World) : Addr → List Key → Wd → HO → Prop := fun a ks _ u => u = KS.KO w a (KS.hasK ks) (KS.dedupK ks).length
@[simp] def appK : List D → List Key → Option (List Key)
  | [d], ks => if ks.length < 4000 then (keyD d).map fun k => k :: ks else none
  | _, _ => none
def finK (w : World) (Dn : Addr) : List V → Hp → (Hp → Prop) → Prop
  | [y], H4, Nx => ∃ (k : Key) (S : Key → Bool) (n : Nat), y = kV k ∧ H4 Dn = some (KS.KO w Dn S n) ∧ n + 1 < scanBound ∧ Nx (upd H4 Dn (KS.plusK w Dn k S n))
  | _, _, _ => False
theorem plus_cons {a : Addr} {k : Key} {ks : List Key} : KS.plusK w a k (KS.hasK ks) (KS.dedupK ks).length = KS.KO w a (KS.hasK (k :: ks)) (KS.dedupK (k :: ks)).length := by
  unfold KS.plusK
  have h1 : (fun j => KS.hasK ks j || decide (j = k)) = KS.hasK (k :: ks) := by
    funext j
    show (KS.hasK ks j || decide (j = k)) = (decide (k = j) || KS.hasK ks j)
    rw [Bool.or_comm]
    congr 1
    by_cases h : j = k
    · rw [decide_eq_true h, decide_eq_true h.symm]
    · rw [decide_eq_false h, decide_eq_false (fun z => h z.symm)]
  have h2 : (if KS.hasK ks k = true then (KS.dedupK ks).length else (KS.dedupK ks).length + 1) = (KS.dedupK (k :: ks)).length := by
    show _ = (if KS.hasK ks k = true then KS.dedupK ks else k :: KS.dedupK ks).length
    split <;> rfl
  rw [h1, h2]
theorem collects_set : Collects K (aKs w) appK (finK w) (fun a => KS.KO w a (fun _ => false) 0) [] where
  mono := fun a x W W' u s h => h
  zero := fun a W => rfl
  put := fun a x x' ds vs W H u Nx s h hH hl e k => by
    unfold appK at e
    split at e
    · rename_i d
      split at e
      · rename_i hz
        obtain ⟨key, ek, rfl⟩ := Option.map_eq_some_iff.mp e
        simp only [RepL] at hl
        obtain ⟨y, r1, rfl, hy, rfl⟩ := hl
        have hkey := keyD_rep ek hy
        subst hkey
        have hu : u = KS.KO w a (KS.hasK x) (KS.dedupK x).length := h
        rw [hu] at hH
        exact ⟨key, _, _, rfl, hH, by have := KS.dedup_le (ks := x); show _ < 4096; omega, k _ plus_cons⟩
      · cases e
    · cases e
theorem sndg_setOf {te : TE} {m : RE → Out (D × RE)} (h : Snd K E te m) : SndG K E (aKs w) (tCB (KS.rSetOf K w) (tCons te tNil)) (fun r => (m r).bnd fun p => match (dr p.2.st p.1).bind seqI with
    | some ds => match keysD ds with
      | some ks => if ks.length < 4000 then .ok (ks, p.2) else .stuck
      | none => .stuck
    | none => .stuck) := fun c σ H W r Q R ww => by
  refine h c σ H W r _ R ((Wp.bnd ww).mono (fun p q v H1 W1 R1 s1 h1 => ?_) fun _ _ x => x)
  split at q
  · rename_i ds e0
    split at q
    · rename_i ks ek
      split at q
      · rename_i hz
        obtain ⟨d, ed, es⟩ := Option.bind_eq_some_iff.mp e0
        have t := h1.at R1 ed
        have key : ∃ a us, v = .ref a ∧ (SqL K H1 a us ∨ SqT K H1 a us) ∧ RepL K W1 ds us := by
          cases d <;> simp only [seqI, reduceCtorEq, Option.some.injEq] at es <;> subst es
          · obtain ⟨a, us, e, q1, q2⟩ := t; exact ⟨a, us, e, .inr (SqT.of (R1.gh.tup q1)), q2⟩
          · obtain ⟨a, us, e, q1, q2⟩ := t; exact ⟨a, us, e, .inl (SqL.of q1), q2⟩
          · obtain ⟨a, us, e, q1, q2⟩ := t; exact ⟨a, us, e, .inl q1, q2⟩
        obtain ⟨a, us, rfl, hs, hl⟩ := key
        have hks := keysD_rep ek hl
        subst hks
        refine ⟨a, ks, rfl, hs, by show _ < 4096; omega, fun pn hp => ?_⟩
        exact q pn _ W1 (R1.ext (Ext.alloc0 R1.gh hp)) s1 ⟨R1.gh.no hp, R1.heNone hp, fun z => R1.there z hp, _, upd_same, rfl⟩
      · exact q.elim
    · exact q.elim
  · exact q.elim
theorem repL_ofK {W : Wd} (ks : List Key) : RepL K W (ks.map ofKey) (ks.map kV) := repL_ofKeys
@[simp] def mSortK (m : RE → Out (List Key × RE)) : RE → Out (D × RE) := fun r => (m r).bnd fun p => if KS.hom p.1 = true then .ok (.lst ((KS.sortK (KS.dedupK p.1)).map ofKey), p.2) else .stuck
theorem sndf_sortK {te : TE} {m : RE → Out (List Key × RE)} (h : SndG K E (aKs w) te m) : SndF K E (tCB (KS.rSortK w) (tCons te tNil)) (mSortK m) := fun c σ H W r Q R ww => by
  refine h c σ H W r _ R ((Wp.bnd ww).mono (fun p q a H1 W1 R1 s1 f => ?_) fun _ _ x => x)
  split at q
  · rename_i hh
    obtain ⟨u, hu, e⟩ := f.o
    cases e
    refine ⟨a, p.1, _, rfl, hu, hh, fun pn hp => ?_⟩
    obtain ⟨R2, f2⟩ := R1.fresh (d := .lst ((KS.sortK (KS.dedupK p.1)).map ofKey)) hp ⟨pn, _, rfl, upd_same, repL_ofK _⟩
    exact q pn _ W1 R2 s1 f2
  · exact q.elim
@[simp] def mLenK (m : RE → Out (List Key × RE)) : RE → Out (D × RE) := fun r => (m r).bnd fun p => .ok (.int (KS.dedupK p.1).length, p.2)
end
/-! ## sorted, of a list of alike data -/
section
variable {X : Cx}
def rSortD (K : PySem.W.Frag) : List V → Hp → VK → Prop := fun xs H Q => ∃ (a : Addr) (bs : List (V × PyData)), xs = [.ref a] ∧ SqL K H a (bs.map (·.1)) ∧ (∀ b ∈ bs, Dp K H b.1 b.2) ∧ AllAlike (bs.map (·.2)) ∧ Sortable (bs.map (·.2)) ∧ (∀ b ∈ bs, b.2.depth ≤ 60) ∧
  ∀ p, H p = none → Q (.ref p) (upd H p (.lst ((bs.mergeSort (dataLe false Prod.snd)).map (·.1))))
theorem each_of {bs : List (V × PyData)} : ∀ {its : List Value}, Vals (bs.map (·.1)) its → EachIs (fun v b => RelV b.1 v) its bs := by
  induction bs with
  | nil => intro its h; cases h; exact .nil
  | cons b bs ih => intro its h; cases h with | cons h t => exact .cons h (ih t)
theorem vals_of {bs : List (V × PyData)} : ∀ {its : List Value}, EachIs (fun v (b : V × PyData) => RelV b.1 v) its bs → Vals (bs.map (·.1)) its := by
  induction bs with
  | nil => intro its h; cases h; exact .nil
  | cons b bs ih => intro its h; cases h with | cons h t => exact .cons h (ih t)
theorem each_reads {pins : List (Addr × Obj)} {σ : L2.St} {H : Hp} {s : Shared} (I : Inv X pins σ H s) {bs : List (V × PyData)} : ∀ {its : List Value}, EachIs (fun v (b : V × PyData) => RelV b.1 v) its bs → (∀ b ∈ bs, Dp X.K H b.1 b.2) → EachIs (fun v b => ∃ as, Reads s.heap v (Prod.snd b) as) its bs := by
  induction bs with
  | nil => intro its h _; cases h; exact .nil
  | cons b bs ih => intro its h k; cases h with | cons h t => exact .cons (Dp.reads I b.2 b.1 _ (k b List.mem_cons_self) h) (ih t fun b' hb => k b' (List.mem_cons_of_mem _ hb))
theorem cr_sortD (hu : X.A.units + 65 < cLine) : CallR X (.builtin "sorted") (rSortD X.K) := by
  intro pins s σ H xs us Q I r h
  obtain ⟨a, bs, rfl, hs, hd, hal, hso, hdep, q⟩ := h
  obtain ⟨its, rv, hl, hz⟩ := I.list hs
  rw [Vals.ref1 r]
  have e := each_of rv
  have hbl : bs.length ≤ sizeLine := by rw [List.length_map] at hz; exact hz
  refine sorted_data (R := fun v b => RelV b.1 v) (enc := Prod.snd) hl.isList e (each_reads I e hd) hal hso hbl (fun b hb => by have := hdep b hb; omega) fun out ho eo => ?_
  obtain ⟨ep, he'⟩ := PyProof.Rows.sortedAll_at s.heap its.toArray.toList out.toArray
  have hlen : ((bs.mergeSort (dataLe false Prod.snd)).map (·.1)).length ≤ sizeLine := by rw [List.length_map, List.length_mergeSort]; exact hbl
  exact ⟨.ref _, upd H (s.heap.objs.size + 1) (.lst ((bs.mergeSort (dataLe false Prod.snd)).map (·.1))), I.laid (t' := s.toks) (fun _ _ => PyProof.Rows.sortedAll_old) (Nat.le_succ _) ⟨hlen, out, ep, vals_of eo, by simpa using he'⟩, rfl, q _ (I.hok.fresh (Nat.le_succ _))⟩
end
def leD (a b : D) : Bool := dataLe false toP a b
def sortOk (ds : List D) : Bool := (toPs ds).all (fun p => p.canLay0 && decide (p.depth ≤ 60)) && (toPs ds).all (fun p => (toPs ds).all fun q => alike p q) &&
  ((toPs ds).all (fun p => match p with | .tuple (_ :: _) => true | _ => false) || (toPs ds).all (fun p => match p with | .none => false | .tuple _ => false | _ => true))
@[simp] def dSort : D → Out D
  | .lst ds => if sortOk ds = true then .ok (.lst (ds.mergeSort leD)) else .stuck
  | .frl ds => if sortOk ds = true then .ok (.lst (ds.mergeSort leD)) else .stuck
  | _ => .stuck
theorem nx_sort : NoX1 dSort := fun a x st h => by cases a <;> simp only [dSort, reduceCtorEq] at h <;> split at h <;> cases h
section
variable {K : KW}
theorem toPs_map : ∀ (ds : List D), toPs ds = ds.map toP
  | [] => rfl
  | d :: ds => by simp only [toPs, List.map_cons, toPs_map ds]
theorem repL_zip {W : Wd} : ∀ {ds : List D} {vs : List V}, RepL K W ds vs → ∃ cs : List (D × V), ds = cs.map (·.1) ∧ vs = cs.map (·.2) ∧ ∀ c ∈ cs, RepD K W c.1 c.2
  | [], vs, h => by simp only [RepL] at h; subst h; exact ⟨[], rfl, rfl, fun c z => absurd z (by simp)⟩
  | d :: ds, vs, h => by
    simp only [RepL] at h
    obtain ⟨v, us, rfl, hd, hl⟩ := h
    obtain ⟨cs, rfl, rfl, k⟩ := repL_zip hl
    exact ⟨(d, v) :: cs, rfl, rfl, fun c z => (List.mem_cons.mp z).elim (fun e => e ▸ hd) (k c)⟩
theorem repL_unzip {W : Wd} : ∀ {cs : List (D × V)}, (∀ c ∈ cs, RepD K W c.1 c.2) → RepL K W (cs.map (·.1)) (cs.map (·.2))
  | [], _ => by simp only [List.map_nil, RepL]
  | c :: cs, h => by
    simp only [List.map_cons, RepL]
    exact ⟨_, _, rfl, h c List.mem_cons_self, repL_unzip fun c' z => h c' (List.mem_cons_of_mem _ z)⟩
theorem callf_sort : CallF K (rSortD K) (d1 dSort) := callf_1 fun x H W dx Q s h1 d hd k => by
  have main : ∀ ds a us, x = .ref a → SqL K H a us → RepL K W ds us → (if sortOk ds = true then Out.ok (.lst (ds.mergeSort leD)) else .stuck) = Out.ok d → rSortD K [x] H Q := fun ds a us ex hs hl hd => by
    subst ex
    split at hd
    · rename_i hso
      cases hd
      obtain ⟨cs, rfl, rfl, hc⟩ := repL_zip hl
      unfold sortOk at hso
      simp only [Bool.and_eq_true, toPs_map, List.map_map] at hso
      obtain ⟨⟨h1, h2⟩, h3⟩ := hso
      have lay : ∀ c ∈ cs, (toP c.1).canLay0 = true ∧ (toP c.1).depth ≤ 60 := fun c hc' => by
        have := List.all_eq_true.mp h1 (toP c.1) (List.mem_map.mpr ⟨c, hc', rfl⟩)
        simpa only [Bool.and_eq_true, decide_eq_true_eq] using this
      let bs : List (V × PyData) := cs.map fun c => (c.2, toP c.1)
      have m1 : bs.map (·.1) = cs.map (·.2) := by rw [List.map_map]; rfl
      have m2 : bs.map (·.2) = cs.map fun c => toP c.1 := by rw [List.map_map]; rfl
      have srt : (cs.mergeSort fun c c' => leD c.1 c'.1).map (·.1) = (cs.map (·.1)).mergeSort leD := List.map_mergeSort fun _ _ _ _ => rfl
      have srt2 : (cs.mergeSort fun c c' => leD c.1 c'.1).map (fun c => (c.2, toP c.1)) = bs.mergeSort (dataLe false Prod.snd) := List.map_mergeSort fun _ _ _ _ => rfl
      have srt3 : (bs.mergeSort (dataLe false Prod.snd)).map (·.1) = (cs.mergeSort fun c c' => leD c.1 c'.1).map (·.2) := by rw [← srt2, List.map_map]; rfl
      refine ⟨a, bs, rfl, by rw [m1]; exact hs, ?_, ?_, ?_, ?_, fun p hp => ?_⟩
      · intro b hb
        obtain ⟨c, hc', rfl⟩ := List.mem_map.mp hb
        have := toP_rep (lay c hc').1 (hc c hc')
        have q : RepD K ⟨H, W.b⟩ c.1 c.2 := RepT.flat s (lay c hc').1 (RepT.of s (hc c hc'))
        exact toP_rep (W := ⟨H, W.b⟩) (lay c hc').1 q
      · rw [m2]
        intro p hp p' hp'
        obtain ⟨c, hc', rfl⟩ := List.mem_map.mp hp
        obtain ⟨c', hc'', rfl⟩ := List.mem_map.mp hp'
        exact List.all_eq_true.mp (List.all_eq_true.mp h2 (toP c.1) (List.mem_map.mpr ⟨c, hc', rfl⟩)) (toP c'.1) (List.mem_map.mpr ⟨c', hc'', rfl⟩)
      · rw [m2]
        rcases (Bool.or_eq_true _ _).mp h3 with z | z
        · refine .inl fun p hp => ?_
          obtain ⟨c, hc', rfl⟩ := List.mem_map.mp hp
          have := List.all_eq_true.mp z (toP c.1) (List.mem_map.mpr ⟨c, hc', rfl⟩)
          split at this
          · rename_i x r e; exact ⟨x, r, e⟩
          · cases this
        · refine .inr fun p hp => ?_
          obtain ⟨c, hc', rfl⟩ := List.mem_map.mp hp
          have := List.all_eq_true.mp z (toP c.1) (List.mem_map.mpr ⟨c, hc', rfl⟩)
          constructor
          · intro e; rw [e] at this; cases this
          · intro xs e; rw [e] at this; cases this
      · intro b hb
        obtain ⟨c, hc', rfl⟩ := List.mem_map.mp hb
        exact (lay c hc').2
      · rw [srt3]
        refine k p _ hp ?_
        rw [← srt]
        exact ⟨p, _, rfl, upd_same, repL_unzip fun c hc' => hc c ((List.mergeSort_perm cs _).mem_iff.mp hc')⟩
    · cases hd
  cases dx <;> simp only [dSort, reduceCtorEq] at hd
  · obtain ⟨a, us, e, q1, q2⟩ := h1; exact main _ a us e (SqL.of q1) q2 hd
  · obtain ⟨a, us, e, q1, q2⟩ := h1; exact main _ a us e q1 q2 hd
end
end Mir
set_option maxHeartbeats 1000000
namespace Mir
open PySem PySem.Spec PyProof.Rows L2
/-! ## more ways of walking -/
section
variable {K : KW} {E : XK} {c : Fm} {σ σ' : L2.St} {H H' : Hp} {W W' : Wd} {r r' : RE}
def iOr (v w : TE → TI) : TE → TI := fun te σ H R => v te σ H R ∨ w te σ H R
@[simp] def orI (f g : D → Option (List D)) : D → Option (List D) := fun d => match f d with
  | some ds => some ds
  | none => g d
theorem WK.or {v w : TE → TI} {f g : D → Option (List D)} (h : WK K v f) (k : WK K w g) : WK K (iOr v w) (orI f g) where
  ni := fun C fs z => by
    have h1 := h.ni C fs
    have h2 := k.ni C fs
    simp only [orI] at z
    cases e : f (.ins C fs) with
    | some ds => exact h1 (by rw [e]; simp)
    | none => rw [e] at z; exact h2 z
  lk := fun d ds W u a od hi hf => by
    simp only [orI] at hi
    cases e : f d with
    | some ds' =>
      rw [e] at hi
      cases hi
      obtain ⟨J, Y, go, w1, hY⟩ := h.lk d ds W u a od e hf
      exact ⟨J, Y, fun te σ H R q1 q2 q3 => .inl (go te σ H R q1 q2 q3), w1, hY⟩
    | none =>
      rw [e] at hi
      obtain ⟨J, Y, go, w1, hY⟩ := k.lk d ds W u a od hi hf
      exact ⟨J, Y, fun te σ H R q1 q2 q3 => .inr (go te σ H R q1 q2 q3), w1, hY⟩
  fz := fun d ds W v hi hv => by
    simp only [orI] at hi
    cases e : f d with
    | some ds' =>
      rw [e] at hi
      cases hi
      rcases h.fz d ds W v e hv with q | ⟨J, Gp, Y, go, w1, hG, hY⟩
      · exact .inl q
      · exact .inr ⟨J, Gp, Y, fun te σ H R q1 q2 q3 => .inl (go te σ H R q1 q2 q3), w1, hG, hY⟩
    | none =>
      rw [e] at hi
      rcases k.fz d ds W v hi hv with q | ⟨J, Gp, Y, go, w1, hG, hY⟩
      · exact .inl q
      · exact .inr ⟨J, Gp, Y, fun te σ H R q1 q2 q3 => .inr (go te σ H R q1 q2 q3), w1, hG, hY⟩
/-- enumerate(list or tuple) -/
@[simp] def enumI : D → Option (List D) := fun d => (seqI d).map (enumD 0)
/-- a text, sign by sign -/
@[simp] def strI : D → Option (List D)
  | .str x => some (chars x)
  | _ => none
theorem wk_str : WK K iStr strI where
  ni := fun C fs => by simp
  lk := fun d ds W u a od hi hf => by
    cases d <;> simp only [Fits] at hf <;> cases hi
  fz := fun d ds W v hi hv => by
    refine .inr ?_
    cases d <;> simp only [strI, reduceCtorEq, Option.some.injEq] at hi
    rename_i x
    subst hi
    simp only [RepD] at hv
    subst hv
    refine ⟨Its x, fun _ => True, _, fun te σ H R s hat q => hat _ ⟨x, rfl, q⟩, by unfold chars; rw [List.length_map, Array.length_toList]; exact walk_str, fun _ _ _ _ => trivial, ?_⟩
    rintro i H2 W2 y H3 s1 s2 hi ⟨rfl, c, hc, hy⟩
    refine ⟨W2, .str ⟨#[c]⟩, Ext.refl s1, ?_, by simp only [RepD]; exact hy⟩
    unfold chars
    rw [List.getElem?_map, Array.getElem?_toList, hc]
    rfl
/-- what is walked as it comes: frozen things that are no path -/
@[simp] def asQ : D → Out (List D) := fun d => match seqI d with
  | some ds => .ok ds
  | none => .stuck
theorem sndi_seq {te : TE} {m : RE → Out (D × RE)} (h : Snd K E te m) : SndI K E (iSeq K te) (mItem asQ m) := fun c σ H W r R R0 w => by
  have key : (fun d => seqI d) = seqI := rfl
  cases e : m r with
  | stuck => simp only [mItem, e, bnd_stuck] at w; exact w.elim
  | exc x s0 =>
    refine .inl (h c σ H W r _ R0 ?_)
    rw [e]
    simp only [mItem, e, bnd_exc] at w
    exact w
  | ok p =>
    obtain ⟨d, r'⟩ := p
    simp only [mItem, e, bnd_ok] at w
    cases es : seqI d with
    | none => simp only [asQ, es, bnd_stuck] at w; exact w.elim
    | some ds =>
      simp only [asQ, es, bnd_ok] at w
      have fin : (∃ ds', d = .tup ds') ∨ ∃ ds', d = .lst ds' ∨ d = .frl ds' := by
        cases d <;> simp only [seqI, reduceCtorEq] at es
        · exact .inl ⟨_, rfl⟩
        · exact .inr ⟨_, .inl rfl⟩
        · exact .inr ⟨_, .inr rfl⟩
      rcases fin with ⟨ds', rfl⟩ | ⟨ds', hd⟩
      · cases es
        refine .inr (h c σ H W r _ R0 ?_)
        rw [e]
        intro v H1 W1 R1 s1 h1
        simp only [RepD] at h1
        obtain ⟨a, us, rfl, hq, hl⟩ := h1
        refine ⟨a, rfl, ⟨us, SqT.of (R1.gh.tup hq)⟩, w _ H1 W1 _ _ R1 s1 (by rw [repL_len hl]; exact walk_tup) (fun σ2 H2 W2 r2 R2 s2 => SqT.of (R2.gh.tup (s2.s.tup hq))) (yields_at hl)⟩
      · refine .inl (h c σ H W r _ R0 ?_)
        rw [e]
        intro v H1 W1 R1 s1 h1
        have : ∃ a us, v = .ref a ∧ SqL K W1.g a us ∧ RepL K W1 ds us := by
          rcases hd with rfl | rfl
          · cases es
            simp only [RepD] at h1
            obtain ⟨a, us, e, hq, hl⟩ := h1
            exact ⟨a, us, e, SqL.of hq, hl⟩
          · cases es
            simp only [RepD] at h1
            exact h1
        obtain ⟨a, us, rfl, hq, hl⟩ := this
        exact ⟨a, rfl, ⟨us, R1.gh.sqL hq⟩, w _ H1 W1 _ _ R1 s1 (by rw [repL_len hl]; exact walk_list) (fun σ2 H2 W2 r2 R2 s2 => R2.gh.sqL (s2.s.sqL hq)) (yields_at hl)⟩
end
/-! ## rules of syntax -/
section
variable {X : Cx} {E : XK} {a b c e f : PySem.Expr} {es : List PySem.Expr} {pos p : Pos} {x : Str}
variable {ma mb m oa ob oc mo mk mv : RE → Out (D × RE)} {mt mu : RE → Out (Bool × RE)} {as_ : RE → Out (List D × RE)} {ms mz : RE → Out Fl} {s : Stmt} {ss st2 : List Stmt}
/-- a path -/
def PathM (X : Cx) (e : PySem.Expr) (m : RE → Out (D × RE)) : Prop := ∃ te, PE X e te ∧ SndPath X.kw te m ∧ ∀ r x s, m r ≠ .exc x s
theorem nx_var {i : Nat} : ∀ r x s, mVar i r ≠ .exc x s := fun r x s h => by unfold mVar at h; split at h <;> cases h
theorem pm_var (i : Nat) (hN : X.N[i]? = some x := by rfl) (hv : Vis X.env.scope x := by first | exact Or.inl rfl | exact Or.inr (Or.inl rfl) | exact Or.inr (Or.inr rfl)) (hd : (x == ("__debug__" : Str)) = false := by decide)
    (hcd : (x == ("__classdict__" : Str)) = false := by decide) : PathM X (.Name x pos) (mVar i) := ⟨_, pe_var hN hv hd hcd, path_var, nx_var⟩
/-- a way of walking -/
def WayM (X : Cx) (tg iter e : PySem.Expr) (items : D → Option (List D)) : Prop := ∃ wi : TE → TI, (∀ te, PE X e te → PI X tg iter (wi te)) ∧ WK X.kw wi items
abbrev anyI : D → Option (List D) := orI seqI (orI strI keysI)
theorem way_any {tg : PySem.Expr} : WayM X tg e e anyI := ⟨iOr (iSeq X.K) (iOr iStr iKeys), fun te h => pi_orI (pi_seq h) (pi_orI (pi_str h) (pi_keys h)), wk_seq.or (wk_str.or wk_keys)⟩
theorem way_vals {tg : PySem.Expr} {apos : Pos} (hbase : attributeBase e "values" X.env (eval e X.env) = eval e X.env := by rfl) (hline : (apos.endLine == pos.line) = true := by rfl) : WayM X tg (.Call (.Attribute e "values" apos) [] [] pos) e valsI := ⟨iVals, fun te h => pi_values h hbase hline, wk_vals⟩
theorem way_items {elts : List PySem.Expr} {kk : Nat} {tpos apos : Pos} (hbase : attributeBase e "items" X.env (eval e X.env) = eval e X.env := by rfl) (hline : (apos.endLine == pos.line) = true := by rfl) : WayM X (.Tuple elts kk tpos) (.Call (.Attribute e "items" apos) [] [] pos) e itemsI := ⟨iItems, fun te h => pi_items h hbase hline, wk_items⟩
theorem im_seq {tg : PySem.Expr} (h : EM X E e m) : IM X E tg e (mItem asQ m) := let ⟨_, h1, h2⟩ := h; ⟨_, pi_seq h1, sndi_seq h2⟩
section
variable {elt tg iter kx : PySem.Expr} {ifs : List PySem.Expr} {scope : Scope} {own : List (Str × Nat)} {mi : RE → Out (List D × RE)} {st : D → RE → Option RE} {me : RE → Out (D × RE)} {y : Str} {py spos : Pos} {vs : List Nat} {items : D → Option (List D)}
theorem sm_forW (hq : PathM X e m) (hw : WayM X tg iter e items) (hg : GM X E tg st vs) (hb : BM X E ss ms) (hp : PassesOwn (model X.prog X.w) X.A X.env X.xe) (hc : X.calm = true := by rfl) (hs : ∀ x, foldedSetIterable iter X.env x = pure x := by intro _; rfl) :
    SM X E (.For tg iter ss [] pos) (mForW items m st ms) := by
  obtain ⟨te, p1, p2, p3⟩ := hq
  obtain ⟨wi, w1, w2⟩ := hw
  obtain ⟨_, g1, g2, _⟩ := hg
  obtain ⟨_, h1, h2⟩ := hb
  exact ⟨_, ps_orS (ps_lock (ps_for hp hc (w1 te p1) g1 h1 hs)) (ps_for hp hc (w1 te p1) g1 h1 hs), snds_forW w2 p2 p3 g2 h2⟩
theorem fm_lcW (vs : List Nat) (own : List (Str × Nat)) (nd : X.N.Nodup) (ok : BlkOk X.N X.env.scope scope own) (hq : PathM X e m) (hw : WayM X tg iter e items) (hg : ∀ i : BIx, GM (Xb X scope i) E tg st vs) (ht : ∀ i : BIx, TMs (Xb X scope i) E ifs mt) (he : ∀ i : BIx, EM (Xb X scope i) E elt me)
    (ho : own.map (·.2) = vs := by rfl) (hc : X.calm = true := by rfl) (hs : ∀ x, foldedSetIterable iter X.env x = pure x := by intro _; rfl) : FM X E (.ListComp elt [⟨tg, iter, ifs, 0⟩] scope pos) (mCompW items vs m st mt me) := by
  obtain ⟨ti, p1, p2, p3⟩ := hq
  obtain ⟨wi, w1, w2⟩ := hw
  obtain ⟨g, tt, te, h2, h3, h4, s1, s2, s3, s4⟩ := lc_all hg ht he
  subst ho
  have h := pe_lc (pos := pos) hc nd (w1 ti p1) ok (fun s H Ca cl fp => h2 (s, H, Ca, cl, fp)) (fun s H Ca cl fp => h3 (s, H, Ca, cl, fp)) (fun s H Ca cl fp => h4 (s, H, Ca, cl, fp)) hs
  exact ⟨_, pe_orE (pe_lock h) h, sndf_compW w2 p2 p3 s1 s2 s3 s4⟩
theorem nl_compW {m : RE → Out (D × RE)} : NL (mCompW items vs m st mt me) := fun r d r' e => by
  unfold mCompW at e
  cases h : m r with
  | stuck => rw [h] at e; cases e
  | exc x s => rw [h] at e; cases e
  | ok p =>
    rw [h, bnd_ok] at e
    split at e
    · rename_i ds r1 _
      cases h2 : mCompL (wipeL r1.s vs) st mt me ds r1.st [] with
      | stuck => rw [h2] at e; cases e
      | exc x s => rw [h2] at e; cases e
      | ok q => rw [h2] at e; cases e; rfl
    · rename_i ds r1 k e1 _
      cases h2 : mCompL (wipeL r1.s vs) st mt me ds r1.st [] with
      | stuck => rw [h2] at e; cases e
      | exc x s => rw [h2] at e; cases e
      | ok q => rw [h2] at e; cases e; rfl
    · cases e
/-! dict comprehensions -/
@[simp] def mDicOf (m : RE → Out (List (Key × D) × RE)) : RE → Out (D × RE) := fun r => (m r).bnd fun p => .ok (.dic p.1, p.2)
theorem dc_all {mk2 : RE → Out (D × RE)} (hg : ∀ i : BIx, GM (Xb X scope i) E tg st vs) (ht : ∀ i : BIx, TMs (Xb X scope i) E ifs mt) (hk : ∀ i : BIx, EM (Xb X scope i) E kx mk2) (he : ∀ i : BIx, EM (Xb X scope i) E elt me) :
    ∃ g tt tk te, (∀ i, PG (Xb X scope i) tg g) ∧ (∀ i, PTs (Xb X scope i) ifs tt) ∧ (∀ i, PE (Xb X scope i) kx tk) ∧ (∀ i, PE (Xb X scope i) elt te) ∧ GV g vs ∧ GS X.kw E g st ∧ SndT X.kw E tt mt ∧ Snd X.kw E tk mk2 ∧ Snd X.kw E te me := by
  obtain ⟨g, tt, te, h2, h3, h4, s1, s2, s3, s4⟩ := lc_all hg ht he
  have hk' := fun i => Classical.choose_spec (hk i)
  exact ⟨g, tt, fun σ H Q => ∀ i, Classical.choose (hk i) σ H Q, te, h2, h3, fun i => ⟨fun pins s σ H Q I h => (hk' i).1.run pins s σ H Q I (h i)⟩, h4, s1, s2, s3, fun c σ H W r Q R w i => (hk' i).2 c σ H W r Q R w, s4⟩
theorem fm_dcW (vs : List Nat) (own : List (Str × Nat)) {mk2 : RE → Out (D × RE)} (nd : X.N.Nodup) (ok : BlkOk X.N X.env.scope scope own) (hq : PathM X e m) (hw : WayM X tg iter e items) (hg : ∀ i : BIx, GM (Xb X scope i) E tg st vs) (ht : ∀ i : BIx, TMs (Xb X scope i) E ifs mt) (hk : ∀ i : BIx, EM (Xb X scope i) E kx mk2) (he : ∀ i : BIx, EM (Xb X scope i) E elt me)
    (ho : own.map (·.2) = vs := by rfl) (hc : X.calm = true := by rfl) (hs : ∀ x, foldedSetIterable iter X.env x = pure x := by intro _; rfl) : FM X E (.DictComp kx elt [⟨tg, iter, ifs, 0⟩] scope pos) (mDicOf (mCGW items vs m st mt (mCons mk2 (mCons me mNil)) appD [])) := by
  obtain ⟨ti, p1, p2, p3⟩ := hq
  obtain ⟨wi, w1, w2⟩ := hw
  obtain ⟨g, tt, tk, te, h2, h3, h5, h4, s1, s2, s3, s5, s4⟩ := dc_all hg ht hk he
  subst ho
  have h := pe_dc (pos := pos) hc nd (w1 ti p1) ok (fun s H Ca cl fp => h2 (s, H, Ca, cl, fp)) (fun s H Ca cl fp => h3 (s, H, Ca, cl, fp)) (fun s H Ca cl fp => h5 (s, H, Ca, cl, fp)) (fun s H Ca cl fp => h4 (s, H, Ca, cl, fp)) hs
  exact ⟨_, pe_orE (pe_lock h) h, sndf_of_g (sndg_compW collects_dic w2 p2 p3 s1 s2 s3 (snd_cons s5 (snd_cons s4 snd_nil)))⟩
/-! sets -/
def KM (X : Cx) (E : XK) (e : PySem.Expr) (m : RE → Out (List Key × RE)) : Prop := ∃ te, PE X e te ∧ SndG X.kw E (aKs X.w) te m
theorem km_scW (vs : List Nat) (own : List (Str × Nat)) (nd : X.N.Nodup) (ok : BlkOk X.N X.env.scope scope own) (hq : PathM X e m) (hw : WayM X tg iter e items) (hg : ∀ i : BIx, GM (Xb X scope i) E tg st vs) (ht : ∀ i : BIx, TMs (Xb X scope i) E ifs mt) (he : ∀ i : BIx, EM (Xb X scope i) E elt me)
    (ho : own.map (·.2) = vs := by rfl) (hc : X.calm = true := by rfl) (hs : ∀ x, foldedSetIterable iter X.env x = pure x := by intro _; rfl) : KM X E (.SetComp elt [⟨tg, iter, ifs, 0⟩] scope pos) (mCGW items vs m st mt (mCons me mNil) appK []) := by
  obtain ⟨ti, p1, p2, p3⟩ := hq
  obtain ⟨wi, w1, w2⟩ := hw
  obtain ⟨g, tt, te, h2, h3, h4, s1, s2, s3, s4⟩ := lc_all hg ht he
  subst ho
  have h := KS.pe_scK (pos := pos) hc nd (w1 ti p1) ok (fun s H Ca cl fp => h2 (s, H, Ca, cl, fp)) (fun s H Ca cl fp => h3 (s, H, Ca, cl, fp)) (fun s H Ca cl fp => h4 (s, H, Ca, cl, fp)) hs
  exact ⟨_, pe_orE (pe_lock h) h, sndg_compW (collects_set (w := X.w)) w2 p2 p3 s1 s2 s3 (snd_cons s4 snd_nil)⟩
end
end
end Mir
set_option maxHeartbeats 400000
namespace Mir
open PySem PySem.Spec PyProof.Rows L2
section
variable {K : KW} {E : XK} {c : Fm} {σ σ' : L2.St} {H H' : Hp} {W W' : Wd} {r r' : RE}
/-! ### unpacking a list or tuple -/
@[simp] def stUnp (n : Nat) (ss : List D → RE → Option RE) : D → RE → Option RE := fun d r => match seqI d with
  | some ds => if ds.length = n then ss ds r else none
  | none => none
def gUnp (K : PySem.W.Frag) (n : Nat) (t : TGs) : TG := fun v σ H Q => gTup K n t v σ H Q ∨ gUnl K n t v σ H Q
theorem pg_unp {X : Cx} {tg : PySem.Expr} {t u : TG} (h : PG X tg t) (k : PG X tg u) : PG X tg (fun v σ H Q => t v σ H Q ∨ u v σ H Q) := ⟨fun pins s σ H v w Q I r q => q.elim (fun q => h.run pins s σ H v w Q I r q) fun q => k.run pins s σ H v w Q I r q⟩
theorem gs_unp {n : Nat} {gs : TGs} {ss : List D → RE → Option RE} (h2 : GSs K E gs ss) : GS K E (gUnp K n gs) (stUnp n ss) := fun c v d σ H W r r' Q R h e k => by
  unfold stUnp at e
  split at e
  · rename_i ds es
    split at e
    · rename_i hn
      cases d <;> simp only [seqI, reduceCtorEq, Option.some.injEq] at es <;> subst es <;> simp only [RepD] at h <;> obtain ⟨a, vs, ev, q, t⟩ := h
      · exact .inl ⟨a, vs, ev, SqT.of (R.gh.tup q), by rw [← repL_len t]; exact hn, h2 c vs _ σ H W r r' Q R t e k⟩
      · exact .inr ⟨a, vs, ev, SqL.of (R.gh.lst q), by rw [← repL_len t]; exact hn, h2 c vs _ σ H W r r' Q R t e k⟩
      · exact .inr ⟨a, vs, ev, R.gh.sqL q, by rw [← repL_len t]; exact hn, h2 c vs _ σ H W r r' Q R t e k⟩
    · cases e
  · cases e
/-! ### clear -/
@[simp] def fClear : D → List D → Out (D × D)
  | .lst _, [] => .ok (.non, .lst [])
  | .dic _, [] => .ok (.non, .dic [])
  | _, _ => .stuck
@[simp] def fClearL : D → List D → Out (D × D) := fun d ds => match d with
  | .lst _ => fClear d ds
  | _ => .stuck
@[simp] def fClearD : D → List D → Out (D × D) := fun d ds => match d with
  | .dic _ => fClear d ds
  | _ => .stuck
/-! ### len of anything -/
@[simp] def dLenA : D → Out D
  | .dic kvs => .ok (.int kvs.length)
  | d => dLen d
theorem lenA_ne {d : D} (h : ∀ kvs, d ≠ .dic kvs) : dLenA d = dLen d := by
  cases d <;> first | (simp only [dLenA]; done) | exact absurd rfl (h _)
theorem nx_lenA : NoX1 dLenA := fun a x st h => by
  by_cases z : ∃ kvs, a = .dic kvs
  · obtain ⟨kvs, rfl⟩ := z; simp only [dLenA, reduceCtorEq] at h
  · rw [lenA_ne fun kvs e => z ⟨kvs, e⟩] at h; exact nx_len _ x st h
abbrev rLenD : List V → Hp → VK → Prop := fun xs H Q => ∃ (a : Addr) (kvs : List (Key × V)), xs = [.ref a] ∧ Rd H a (.dK kvs) ∧ Q (.int kvs.length) H
theorem cr_lenD {X : Cx} : CallR X (.builtin "len") rLenD := by
  intro pins s σ H xs us Q I r h
  obtain ⟨a, kvs, rfl, ha, q⟩ := h
  obtain ⟨u, rfl, ru⟩ := vals1 r
  cases ru
  exact d_len I ha fun t s' I' => ⟨.int kvs.length, H, I', ⟨t, rfl⟩, q⟩
theorem CallR.or {X : Cx} {v : Value} {f g : List V → Hp → VK → Prop} (h : CallR X v f) (k : CallR X v g) : CallR X v (fun xs H Q => f xs H Q ∨ g xs H Q) := fun pins s σ H xs us Q I r q => q.elim (fun q => h pins s σ H xs us Q I r q) fun q => k pins s σ H xs us Q I r q
theorem calls_lenA : CallS K (fun xs H Q => (∃ x n, xs = [x] ∧ LenV K x H n ∧ Q (.int n) H) ∨ rLenD xs H Q) (d1 dLenA) := calls_1 fun x H W dx Q s h1 d hd k => by
  by_cases z : ∃ kvs, dx = .dic kvs
  · obtain ⟨kvs, rfl⟩ := z
    simp only [dLenA, Out.ok.injEq] at hd
    subst hd
    obtain ⟨a, us, rfl, ha, la⟩ := h1
    exact .inr ⟨a, us, rfl, ha, k _ _ _ (Ext.refl s) (by rw [repK_len la]; exact repD_int)⟩
  · rw [lenA_ne fun kvs e => z ⟨kvs, e⟩] at hd
    exact .inl (calls_len [x] H W [dx] Q s (.cons h1 .nil) d (by simpa only [d1] using hd) k)
/-! ### isinstance(x, (T, ..)) -/
@[simp] def tysD : List D → Option (List String)
  | [] => some []
  | .ty n :: ds => if n ∈ tyList then (tysD ds).map (n :: ·) else none
  | _ => none
@[simp] def dIsiT : D → D → Out D
  | d, .tup ts => match tyName d, tysD ts with
    | some t, some ns => .ok (.bl (ns.any fun n => isSub t n))
    | _, _ => .stuck
  | _, _ => .stuck
theorem nx_isiT : NoX2 dIsiT := fun a b x st h => by unfold dIsiT at h; split at h <;> (try split at h) <;> cases h
theorem tysD_rep {W : Wd} : ∀ {ds : List D} {ns : List String} {vs : List V}, tysD ds = some ns → RepL K W ds vs → Paired ClsV vs (ns.map Value.type) ∧ ∀ n ∈ ns, n ∈ tyList
  | [], ns, vs, e, h => by cases e; simp only [RepL] at h; subst h; exact ⟨.nil, fun n z => absurd z (by simp)⟩
  | d :: ds, ns, vs, e, h => by
    cases d <;> simp only [tysD, reduceCtorEq] at e
    rename_i n
    split at e
    · rename_i hn
      obtain ⟨ns', e', rfl⟩ := Option.map_eq_some_iff.mp e
      simp only [RepL] at h
      obtain ⟨v, us, rfl, hv, hl⟩ := h
      simp only [RepD] at hv
      subst hv
      obtain ⟨h1, h2⟩ := tysD_rep e' hl
      exact ⟨.cons (.ty n) h1, fun m z => (List.mem_cons.mp z).elim (fun y => y ▸ hn) (h2 m)⟩
    · cases e
theorem kit_any {t : String} (ht : t ∈ ["NoneType", "bool", "int", "str", "tuple", "list", "dict"]) : ∀ {ns : List String}, (∀ n ∈ ns, n ∈ tyList) → PySem.W.kitAny K (.type t) (ns.map Value.type) = some (ns.any fun n => isSub t n)
  | [], _ => rfl
  | n :: ns, h => by
    have h1 := kit_all (K := K) ht (h n List.mem_cons_self)
    have h2 := kit_any ht (ns := ns) fun m z => h m (List.mem_cons_of_mem _ z)
    simp only [List.map_cons, PySem.W.kitAny, h1, h2, List.any_cons]
    cases isSub t n <;> rfl
theorem calls_isiT : CallS K (rIsiT K) (d2 dIsiT) := calls_2 fun x y H W dx dy Q s hx hy d hd k => by
  cases dy <;> simp only [dIsiT, reduceCtorEq] at hd
  rename_i ts
  split at hd
  · rename_i t ns ht hn
    cases hd
    obtain ⟨a, vs, rfl, ha, la⟩ := hy
    obtain ⟨h1, h2⟩ := tysD_rep hn la
    exact ⟨x, a, vs, .type t, ns.map Value.type, _, rfl, s.tup ha, h1, tyName_ok s ht hx, kit_any (tyName_mem ht) h2, k _ _ _ (Ext.refl s) repD_bl⟩
  · cases hd
/-! ### == of dicts that are equal -/
@[simp] def isFlat : D → Bool
  | .non => true
  | .bl _ => true
  | .int _ => true
  | .str _ => true
  | _ => false
@[simp] def sameS : D → D → Bool
  | .non, .non => true
  | .bl a, .bl b => a == b
  | .int a, .int b => a == b
  | .str a, .str b => a == b
  | _, _ => false
@[simp] def dicSame (ks ls : List (Key × D)) : Bool := decide (ks.length = ls.length) && ks.all fun p => match valD ls p.1 with
  | some d => sameS p.2 d
  | none => false
@[simp] def dEqK : D → D → Out D
  | .dic ks, .dic ls => if dicSame ks ls = true then .ok (.bl true) else .stuck
  | a, b => dEq a b
@[simp] def dNeK : D → D → Out D
  | .dic ks, .dic ls => if dicSame ks ls = true then .ok (.bl false) else .stuck
  | a, b => dNe a b
theorem nx_eqK : NoX2 dEqK := fun a b x st h => by
  unfold dEqK at h
  split at h
  · split at h <;> cases h
  · exact nx_eq _ _ _ _ h
theorem nx_neK : NoX2 dNeK := fun a b x st h => by
  unfold dNeK at h
  split at h
  · split at h <;> cases h
  · exact nx_ne _ _ _ _ h
abbrev rDicR (o : Bool) : R2 := fun x y H Q => ∃ a b ks ls, x = .ref a ∧ y = .ref b ∧ Rd H a (.dK ks) ∧ Rd H b (.dK ls) ∧ ks.length = ls.length ∧ (∀ p ∈ ks, valV ls p.1 = some p.2 ∧ flatB p.2 = true) ∧ Q (.bl o) H
theorem op_eqR {X : Cx} (hu : X.A.units < cLine) : OpR X (compareOp .Eq) (rDicR true) := by
  intro pins s σ H x y v u Q I rx ry h
  obtain ⟨a, b, ks, ls, rfl, rfl, ea, eb, hlen, hp, q⟩ := h
  obtain rfl : v = Value.ref a := rx
  obtain rfl : u = Value.ref b := ry
  obtain ⟨_, ya, va, ra, da⟩ := dk_rd I.hok ea
  obtain ⟨_, yb, vb, rb, db⟩ := dk_rd I.hok eb
  have hl : va.length = vb.length := by rw [← ra.length, ← rb.length]; exact hlen
  exact PySem.W.keq_eq (knd := mixKind X.prog X.w) (r := true) ya yb da db hu (fun _ => hits_all rb ra hp) (fin_bl I q (by simp [hl]))
theorem op_neR {X : Cx} (hu : X.A.units < cLine) : OpR X (compareOp .NotEq) (rDicR false) := by
  intro pins s σ H x y v u Q I rx ry h
  obtain ⟨a, b, ks, ls, rfl, rfl, ea, eb, hlen, hp, q⟩ := h
  obtain rfl : v = Value.ref a := rx
  obtain rfl : u = Value.ref b := ry
  obtain ⟨_, ya, va, ra, da⟩ := dk_rd I.hok ea
  obtain ⟨_, yb, vb, rb, db⟩ := dk_rd I.hok eb
  have hl : va.length = vb.length := by rw [← ra.length, ← rb.length]; exact hlen
  exact PySem.W.keq_ne (knd := mixKind X.prog X.w) (r := true) ya yb da db hu (fun _ => hits_all rb ra hp) (fin_bl I q (by simp [hl]))
theorem repK_mem {W : Wd} : ∀ {ds : List (Key × D)} {vs : List (Key × V)} {p : Key × V}, RepK K W ds vs → p ∈ vs → ∃ d, (p.1, d) ∈ ds ∧ RepD K W d p.2
  | [], vs, p, h, m => by simp only [RepK] at h; subst h; cases m
  | (k, d) :: ds, vs, p, h, m => by
    simp only [RepK] at h
    obtain ⟨v, us, rfl, hd, hl⟩ := h
    rcases List.mem_cons.mp m with e | m
    · subst e; exact ⟨d, List.mem_cons_self, hd⟩
    · obtain ⟨d', h1, h2⟩ := repK_mem hl m
      exact ⟨d', List.mem_cons_of_mem _ h1, h2⟩
theorem sameS_rep {W : Wd} {a b : D} {x y : V} (e : sameS a b = true) (ha : RepD K W a x) (hb : RepD K W b y) : x = y ∧ flatB x = true := by
  cases a <;> cases b <;> simp only [sameS, reduceCtorEq, Bool.false_eq_true, beq_iff_eq] at e <;> simp only [RepD] at ha hb <;> subst ha hb
  · exact ⟨rfl, rfl⟩
  · subst e; exact ⟨rfl, rfl⟩
  · subst e; exact ⟨rfl, rfl⟩
  · subst e; exact ⟨rfl, rfl⟩
theorem dicSame_rep {H : Hp} {W : Wd} {ks ls : List (Key × D)} {us ws : List (Key × V)} (e : dicSame ks ls = true) (h : RepK K W ks us) (k : RepK K W ls ws) : us.length = ws.length ∧ ∀ p ∈ us, valV ws p.1 = some p.2 ∧ flatB p.2 = true := by
  simp only [dicSame, Bool.and_eq_true, decide_eq_true_eq] at e
  refine ⟨by rw [← repK_len h, ← repK_len k]; exact e.1, fun p hp => ?_⟩
  obtain ⟨d, hm, hd⟩ := repK_mem h hp
  have := List.all_eq_true.mp e.2 _ hm
  simp only at this
  rcases repK_val (k := p.1) k with ⟨z1, z2⟩ | ⟨d', v', z1, z2, z3⟩
  · rw [z1] at this; cases this
  · rw [z1] at this
    obtain ⟨q1, q2⟩ := sameS_rep this hd z3
    exact ⟨by rw [z2, q1], q2⟩
theorem ops_eqK : OpS K (fun x y H Q => (rEq x y H Q ∨ rEqD K x y H Q) ∨ rDicR true x y H Q) dEqK := fun x y H W dx dy Q s hx hy d hd k => by
  unfold dEqK at hd
  split at hd
  · rename_i ks ls
    split at hd
    · rename_i e
      cases hd
      obtain ⟨a, us, rfl, ha, la⟩ := hx
      obtain ⟨b, ws, rfl, hb, lb⟩ := hy
      obtain ⟨q1, q2⟩ := dicSame_rep (H := H) e la lb
      exact .inr ⟨a, b, us, ws, rfl, rfl, ha, hb, q1, q2, k _ _ _ (Ext.refl s) repD_bl⟩
    · cases hd
  · exact .inl (ops_eq x y H W _ _ Q s hx hy d hd k)
theorem ops_neK : OpS K (fun x y H Q => (rNe x y H Q ∨ rNeD K x y H Q) ∨ rDicR false x y H Q) dNeK := fun x y H W dx dy Q s hx hy d hd k => by
  unfold dNeK at hd
  split at hd
  · rename_i ks ls
    split at hd
    · rename_i e
      cases hd
      obtain ⟨a, us, rfl, ha, la⟩ := hx
      obtain ⟨b, ws, rfl, hb, lb⟩ := hy
      obtain ⟨q1, q2⟩ := dicSame_rep (H := H) e la lb
      exact .inr ⟨a, b, us, ws, rfl, rfl, ha, hb, q1, q2, k _ _ _ (Ext.refl s) repD_bl⟩
    · cases hd
  · exact .inl (ops_ne x y H W _ _ Q s hx hy d hd k)
end
/-! ## rules of syntax -/
section
variable {X : Cx} {E : XK} {a b c e f o : PySem.Expr} {es : List PySem.Expr} {pos p tpos apos : Pos} {x : Str}
variable {ma mb m oa ob oc mo mk mv : RE → Out (D × RE)} {mt mu : RE → Out (Bool × RE)} {as_ : RE → Out (List D × RE)} {ms mz : RE → Out Fl} {s : Stmt} {ss st2 : List Stmt}
theorem room0 {k : Nat} {A : Around} (hr : Room k A) : A.units < cLine := by have := room65 hr; omega
theorem k_eqK {k : Nat} (hr : Room k X.A) : CmpK X .Eq dEqK := ⟨⟨_, OpR.or (OpR.or op_eq (op_eqD hr.units)) (op_eqR (room0 hr)), ops_eqK⟩, nx_eqK⟩
theorem k_neK {k : Nat} (hr : Room k X.A) : CmpK X .NotEq dNeK := ⟨⟨_, OpR.or (OpR.or op_ne (op_neD hr.units)) (op_neR (room0 hr)), ops_neK⟩, nx_neK⟩
theorem em_lenA (hm : X.mg "len" = none) (h : EM X E e oa) (hg : Gl X "len" := by rfl) (hs : starEach [e] X.env = (false, eval e X.env) :: starEach [] X.env := by rfl) (hpl : (backTo pos (starEach [] X.env)).any (·.1) = false := by rfl) : EM X E (.Call (.Name "len" p) [e] [] pos) (mArgs (d1 dLenA) (mCons oa mNil)) :=
  em_cb (CallR.or call_len cr_lenD) calls_lenA (nox_d1 nx_lenA) hm PySem.boot_len (am_cons h am_nil hs) hg (by decide) (by decide) hs hpl
theorem em_isiT (hm : X.mg "isinstance" = none) (h : EM X E a oa) (k : EM X E b ob) (hg : Gl X "isinstance" := by rfl) (hs2 : starEach [b] X.env = (false, eval b X.env) :: starEach [] X.env := by rfl) (hs : starEach [a, b] X.env = (false, eval a X.env) :: starEach [b] X.env := by rfl) (hpl : (backTo pos (starEach [b] X.env)).any (·.1) = false := by rfl) :
    EM X E (.Call (.Name "isinstance" p) [a, b] [] pos) (mArgs (d2 dIsiT) (mCons oa (mCons ob mNil))) := em_cb call_isiT calls_isiT (nox_d2 nx_isiT) hm (by decide +kernel) (am_cons h (am_cons k am_nil hs2) hs) hg (by decide) (by decide) hs hpl
theorem fm_sort {k : Nat} (hr : Room k X.A) (hm : X.mg "sorted" = none) (h : EM X E e oa) (hg : Gl X "sorted" := by rfl) (hs : starEach [e] X.env = (false, eval e X.env) :: starEach [] X.env := by rfl) (hpl : (backTo pos (starEach [] X.env)).any (·.1) = false := by rfl) : FM X E (.Call (.Name "sorted" p) [e] [] pos) (mArgs (d1 dSort) (mCons oa mNil)) :=
  fm_cb (cr_sortD (room65 hr)) callf_sort (nox_d1 nx_sort) hm (by decide +kernel) (am_cons h am_nil hs) hg (by decide) (by decide) hs hpl
theorem nl_sort : NL (mArgs (d1 dSort) as_) := nl_args fun ds d e => by
  unfold d1 at e
  split at e
  · unfold dSort at e
    split at e
    · split at e <;> cases e
      rfl
    · split at e <;> cases e
      rfl
    · cases e
  · cases e
@[simp] def mSetOf (oa : RE → Out (D × RE)) : RE → Out (List Key × RE) := fun r => (oa r).bnd fun p => match (dr p.2.st p.1).bind seqI with
    | some ds => match keysD ds with
      | some ks => if ks.length < 4000 then .ok (ks, p.2) else .stuck
      | none => .stuck
    | none => .stuck
theorem km_setOf (hm : X.mg "set" = none) (h : EM X E e oa) (hc : X.calm = true := by rfl) (hg : Gl X "set" := by rfl) (hs : starEach [e] X.env = (false, eval e X.env) :: starEach [] X.env := by rfl) (hpl : (backTo pos (starEach [] X.env)).any (·.1) = false := by rfl) : KM X E (.Call (.Name "set" p) [e] [] pos) (mSetOf oa) := let ⟨_, h1, h2⟩ := h; ⟨_, pe_callTy (KS.cr_setOf hc) hg hm (by decide +kernel) (pa_cons h1 pa_nil hs) (by decide) (by decide) hs hpl, sndg_setOf h2⟩
theorem fm_sortK {k : Nat} {mk : RE → Out (List Key × RE)} (hr : Room k X.A) (hm : X.mg "sorted" = none) (h : KM X E e mk) (hc : X.calm = true := by rfl) (hg : Gl X "sorted" := by rfl) (hs : starEach [e] X.env = (false, eval e X.env) :: starEach [] X.env := by rfl) (hpl : (backTo pos (starEach [] X.env)).any (·.1) = false := by rfl) : FM X E (.Call (.Name "sorted" p) [e] [] pos) (mSortK mk) :=
  let ⟨_, h1, h2⟩ := h; ⟨_, pe_callB (KS.cr_sortK hc (by have := hr.un; omega)) hg hm (by decide +kernel) (pa_cons h1 pa_nil hs) (by decide) (by decide) hs hpl, sndf_sortK h2⟩
theorem nl_sortK {mk : RE → Out (List Key × RE)} : NL (mSortK mk) := nl_bnd fun a d r' e => by
  split at e <;> cases e
  rfl
/-! subscripts of anything -/
theorem ix_dict (hu : X.A.units + 65 < cLine) : IxR X (rIxD X.w) := by
  intro value slice pins s σ H x y v u Q I rx ry h hs
  obtain ⟨a, w, rfl, g, q⟩ := h
  obtain rfl : v = Value.ref a := rx
  exact tail_any (KN.dictA_typeIs I g) PySem.F.slot_dict_getitem.lookup (KN.a_getItem hu I g ry fun w' s3 I3 rw' => ⟨w, H, I3, rw', q⟩) hs
theorem em_ixA {k : Nat} (hr : Room k X.A) (ha : EM X E a oa) (hb : EM X E b ob) (hs : PlainIx b := by exact fun _ _ => rfl) : EM X E (.Subscript a b pos) (mOp2 dIxA oa ob) :=
  let ⟨_, h1, h2⟩ := ha; let ⟨_, h3, h4⟩ := hb; ⟨_, pe_ix (IxR.or (IxR.or ix_list (IxR.or ix_tup ix_str)) (ix_dict (room65 hr))) h1 h3 hs, snd_op2 ops_ixA nx_ixA h2 h4⟩
theorem em_get1 {k : Nat} (hr : Room k X.A) (ho : EM X E o mo) (he : EM X E e mk) (m : M1 X o "get" apos e pos := by exact ⟨rfl, rfl, rfl, rfl⟩) : EM X E (.Call (.Attribute o "get" apos) [e] [] pos) (mGet mo mk (mC .non)) :=
  let ⟨_, h1, h2⟩ := ho; let ⟨_, h3, h4⟩ := he; ⟨_, KN.pe_aget1 (room65 hr) h1 h3 m, snd_get1 h2 h4⟩
theorem sm_put {k : Nat} (hr : Room k X.A) (ho : EM X E o mo) (hi : EM X E a mk) (hv : EM X E e mv) (ha : ∀ v, assign (.Subscript o a tpos) X.env v = (do
      let ov ← holding [v] (eval o X.env)
      let iv ← holding [v, ov] (eval a X.env)
      standAt tpos
      holding [v, ov, iv] (setItem ov iv v)
      release [v, ov, iv] []) := by intro _; rfl) (hs : swapsWithSole [.Subscript o a tpos] e pos.line X.env = pure false := by rfl) (hw : swappedStores [.Subscript o a tpos] e X.env = pure none := by rfl)
    (h1 : (assignEach [.Subscript o a tpos] X.env).map (·.2) = [assign (.Subscript o a tpos) X.env] := by rfl) : SM X E (.Assign [.Subscript o a tpos] e pos) (mPut mo mk mv) :=
  let ⟨_, o1, o2⟩ := ho; let ⟨_, i1, i2⟩ := hi; let ⟨_, v1, v2⟩ := hv; ⟨_, ps_asg v1 (pg_sub o1 i1 (PSet.or set_list (KN.setA_dict (room65 hr))) ha) hs hw h1, snds_put o2 i2 v2⟩
theorem gm_unp {n : Nat} {tgs : List PySem.Expr} {st : List D → RE → Option RE} {vs : List Nat} {k : Nat} (h : GMs X E tgs st vs) (hc : X.calm = true := by rfl) (hn : (assignEach tgs X.env).length = n := by rfl) (hst : (assignEach tgs X.env).findIdx? (·.1) = none := by rfl) : GM X E (.Tuple tgs k pos) (stUnp n st) vs := by
  obtain ⟨gs, k1, k2, k3⟩ := h
  exact ⟨_, pg_unp (pg_tup hc k1 hn hst) (pg_unl hc k1 hn hst), gs_unp k2, fun v σ H Q Q' h q => q.elim (fun ⟨a, xs, e1, e2, e3, q⟩ => .inl ⟨a, xs, e1, e2, e3, k3 xs σ H Q Q' h q⟩) fun ⟨a, xs, e1, e2, e3, q⟩ => .inr ⟨a, xs, e1, e2, e3, k3 xs σ H Q Q' h q⟩⟩
end
end Mir
set_option maxHeartbeats 400000
namespace Mir
open PySem PySem.Spec PyProof.Rows L2
/-! ## own classes -/
@[simp] def putFD (f : Str) (v : D) : List (Str × D) → List (Str × D)
  | [] => [(f, v)]
  | (g, x) :: r => if g = f then (g, v) :: r else (g, x) :: putFD f v r
/-- C(..): a new thing, then __init__ -/
def mkF (C : Addr) (mf : Fn) : Fn := fun ds st => (mf (.cell st.length :: ds) (st ++ [.ins C []])).bnd fun q => match q.1 with
  | .non => .ok (.cell st.length, q.2)
  | _ => .stuck
section
variable {K : KW} {E : XK} {c : Fm} {σ σ' : L2.St} {H H' : Hp} {W W' : Wd} {r r' : RE}
theorem repF_look {f : Str} : ∀ {ds : List (Str × D)} {vs : List (Str × V)} {d : D}, RepF K W ds vs → ds.lookup f = some d → ∃ v, vs.lookup f = some v ∧ RepD K W d v
  | [], vs, d, h, e => by cases e
  | (g, x) :: ds, vs, d, h, e => by
    simp only [RepF] at h
    obtain ⟨v, us, rfl, hx, hl⟩ := h
    simp only [List.lookup_cons] at e ⊢
    split at e
    · rename_i z
      cases e
      exact ⟨v, rfl, hx⟩
    · rename_i z
      obtain ⟨w, h1, h2⟩ := repF_look hl e
      exact ⟨w, h1, h2⟩
theorem repF_none {f : Str} : ∀ {ds : List (Str × D)} {vs : List (Str × V)}, RepF K W ds vs → ds.lookup f = none → vs.lookup f = none
  | [], vs, h, e => by simp only [RepF] at h; subst h; rfl
  | (g, x) :: ds, vs, h, e => by
    simp only [RepF] at h
    obtain ⟨v, us, rfl, hx, hl⟩ := h
    simp only [List.lookup_cons] at e ⊢
    split at e
    · cases e
    · rename_i z
      exact repF_none hl e
theorem repF_len : ∀ {ds : List (Str × D)} {vs : List (Str × V)}, RepF K W ds vs → ds.length = vs.length
  | [], vs, h => by simp only [RepF] at h; subst h; rfl
  | (g, x) :: ds, vs, h => by
    simp only [RepF] at h
    obtain ⟨v, us, rfl, hx, hl⟩ := h
    simp only [List.length_cons, repF_len hl]
theorem repF_put {f : Str} {d : D} {v : V} (hd : RepD K W d v) : ∀ {ds : List (Str × D)} {vs : List (Str × V)}, RepF K W ds vs → RepF K W (putFD f d ds) (putF f v vs)
  | [], vs, h => by
    simp only [RepF] at h; subst h
    simp only [putFD, RepF]
    exact ⟨v, [], rfl, hd, rfl⟩
  | (g, x) :: ds, vs, h => by
    simp only [RepF] at h
    obtain ⟨w, us, rfl, hx, hl⟩ := h
    simp only [putFD, putF]
    by_cases z : g = f
    · rw [if_pos z, if_pos z]
      simp only [RepF]
      exact ⟨v, us, rfl, hd, hl⟩
    · rw [if_neg z, if_neg z]
      simp only [RepF]
      exact ⟨w, _, rfl, hx, repF_put hd hl⟩
/-! fields -/
@[simp] def mFld (C : Addr) (f : Str) (m : RE → Out (D × RE)) : RE → Out (D × RE) := fun r => (m r).bnd fun p => match dr p.2.st p.1 with
  | some (.ins C' fs) => if C' = C then match fs.lookup f with
      | some d => .ok (d, p.2)
      | none => .stuck
    else .stuck
  | _ => .stuck
theorem snd_fld {C : Addr} {f : Str} {te : TE} {m : RE → Out (D × RE)} (hC : Cls K C) (hN : NoAttr K C f) (h : Snd K E te m) : Snd K E (tFld K te f) (mFld C f m) := fun c σ H W r Q R w => by
  refine h c σ H W r _ R ((Wp.bnd w).mono (fun p q v H1 W1 R1 s1 h1 => ?_) fun _ _ x => x)
  split at q
  · rename_i C' fs e0
    split at q
    · rename_i hc
      subst hc
      split at q
      · rename_i d el
        obtain ⟨a, dx, us, rfl, ha, la⟩ := h1.at R1 e0
        obtain ⟨v, h3, h4⟩ := repF_look la el
        exact ⟨a, C', dx, us, v, rfl, ha, hC, hN, h3, q v H1 W1 R1 s1 h4⟩
      · exact q.elim
    · exact q.elim
  · exact q.elim
theorem path_fld {C : Addr} {f : Str} {te : TE} {m : RE → Out (D × RE)} (hC : Cls K C) (hN : NoAttr K C f) (h : SndPath K te m) : SndPath K (tFld K te f) (mFld C f m) := fun c σ H W r d r' R e => by
  unfold mFld at e
  cases em : m r with
  | exc x s => rw [em] at e; cases e
  | stuck => rw [em] at e; cases e
  | ok p =>
    obtain ⟨d0, r0⟩ := p
    rw [em, bnd_ok] at e
    obtain ⟨rfl, v, hv, hat⟩ := h c σ H W r d0 r0 R em
    simp only at e
    split at e
    · rename_i C' fs e0
      split at e
      · rename_i hc
        subst hc
        split at e
        · rename_i d1 el
          cases e
          obtain ⟨a, dx, us, rfl, ha, la⟩ := hv.at R e0
          obtain ⟨v1, h3, h4⟩ := repF_look la el
          exact ⟨rfl, v1, h4, fun H' Q k q => hat H' _ k ⟨a, C', dx, us, v1, rfl, k _ _ _ _ ha, hC, hN, h3, q⟩⟩
        · cases e
      · cases e
    · cases e
theorem nx_fld {C : Addr} {f : Str} {m : RE → Out (D × RE)} (nx : ∀ r x s, m r ≠ .exc x s) : ∀ r x s, mFld C f m r ≠ .exc x s := fun r x s e => by
  unfold mFld at e
  cases em : m r with
  | exc x s => exact nx _ _ _ em
  | stuck => rw [em] at e; cases e
  | ok p =>
    rw [em, bnd_ok] at e
    split at e
    · split at e
      · split at e <;> cases e
      · cases e
    · cases e
@[simp] def mSetF (C : Addr) (f : Str) (mo mv : RE → Out (D × RE)) : RE → Out Fl := fun r => (mv r).bnd fun v => (mo v.2).bnd fun o => match o.1 with
  | .cell i => match o.2.st[i]? with
    | some (.ins C' fs) => if C' = C ∧ fs.length < 1000 then .ok (.nx ⟨o.2.s, o.2.st.set i (.ins C (putFD f v.1 fs))⟩) else .stuck
    | _ => .stuck
  | _ => .stuck
theorem snds_fld {C : Addr} {f : Str} {to tv : TE} {mo mv : RE → Out (D × RE)} (hC : Cls K C) (hN : NoAttr K C f) (ho : Snd K E to mo) (hv : Snd K E tv mv) : SndS K E (sFld K to tv f) (mSetF C f mo mv) := fun c σ H W r Dd R w => by
  refine hv c σ H W r _ R ((Wp.bnd w).mono (fun p q v H1 W1 R1 s1 h1 => ?_) fun _ _ x => x)
  refine ho c σ H1 W1 p.2 _ R1 ((Wp.bnd q).mono (fun p2 q2 vo H2 W2 R2 s2 h2 => ?_) fun _ _ x => x)
  obtain ⟨od, or'⟩ := p2
  cases od <;> simp only at q2 <;> try exact q2.elim
  rename_i i
  simp only [RepD] at h2
  obtain ⟨a, ha, rfl⟩ := h2
  split at q2
  · rename_i C' fs e1
    split at q2
    · rename_i hc
      obtain ⟨rfl, hz⟩ := hc
      have ow := R2.ce i _ a e1 ha
      obtain ⟨b, dx, us, ea, hH, la⟩ := id ow
      cases ea
      refine ⟨a, C', dx, us, rfl, hH, hC, hN, by rw [← repF_len la]; exact hz, ?_⟩
      exact q2 σ _ W2 (R2.mut e1 ha (ow.nofrz rfl) ⟨a, dx, _, rfl, upd_same, repF_put (h1.mono s2) la⟩) (s1.trans s2)
    · exact q2.elim
  · exact q2.elim
/-! C(..) -/
theorem mk_sp {n : Nat} {C : Addr} {mf : Fn} {vs : List V} {Q : VK} (h : spP K n (mkF C mf) vs H Q E) {x dx : Addr} (hx : H x = none) (hdx : H dx = none) (hne : dx ≠ x) :
    spP K (n + 1) mf (.ref x :: vs) (upd (upd H dx (.own x)) x (.ins C dx [])) (fun v H2 => v = .non ∧ Q (.ref x) H2) E := by
  obtain ⟨hl, ds, st, W, R, rep, w⟩ := h
  have R1 : R0 K (fm0 H W) (upd H dx (.own x)) W st := R.ext (Ext.alloc0 R.gh hdx)
  have hx1 : (upd H dx (.own x)) x = none := by rw [upd_ne (Ne.symm hne)]; exact hx
  obtain ⟨R2, f2⟩ := R1.fresh (o := .ins C dx []) (d := .ins C []) hx1 ⟨x, dx, [], rfl, upd_same, by simp only [RepF]⟩
  obtain ⟨R3, h3⟩ := R2.newCell f2
  refine ⟨by simp only [List.length_cons, hl], .cell st.length :: ds, st ++ [.ins C []], W.add x, R3.entry, ?_, ?_⟩
  · simp only [RepL]
    exact ⟨_, _, rfl, h3, rep.mono Le.add⟩
  · unfold mkF at w
    refine (Wp.bnd w).mono (fun p q v H2 W2 R4 hv => ?_) fun x st hx => XP.call R3 hx
    obtain ⟨d, st2⟩ := p
    cases d <;> simp only at q <;> try exact q.elim
    simp only [RepD] at hv
    subst hv
    exact ⟨rfl, q (.ref x) H2 W2 (RR.call R3 R4) (h3.mono R4.g0)⟩
theorem hn_mk {n : Nat} {C : Addr} {m : Fn} (h : HasN (n + 1) m) : HasN n (mkF C m) := fun ds st z => by
  have := h (.cell st.length :: ds) (st ++ [.ins C []]) fun e => z (by unfold mkF; rw [e]; rfl)
  simpa using this
theorem nxf_mk {C : Addr} {m : Fn} (h : NoXF m) : NoXF (mkF C m) := fun ds st x st' e => by
  unfold mkF at e
  cases e2 : m (.cell st.length :: ds) (st ++ [.ins C []]) with
  | exc x s => exact h _ _ _ _ e2
  | stuck => rw [e2] at e; cases e
  | ok p => rw [e2, bnd_ok] at e; split at e <;> cases e
theorem snd_make {C : Addr} {ta : TA} {ms : RE → Out (List D × RE)} {n : Nat} {m : Fn} {dd : List D} {dvs : List V} {mg : Fn} (hn : HasN n mg) (nx : NoXF mg) (hg : ∀ vs H Q, spP K n mg vs H Q E0 → spP K n (mkF C m) vs H Q E0) (hd : ∀ W, RepL K W dd dvs) (h : SndA K E ta ms) : Snd K E (tMake C (spN K (n + 1) m) dvs E0 ta) (mCall mg dd ms) := fun c σ H W r Q R w => by
  refine h c σ H W r _ R ((Wp.bnd w).mono (fun p q vs H1 W1 R1 s1 h1 x dx hx hdx hne => ?_) fun _ _ x => x)
  have rl := repL_app h1 (hd W1)
  refine mk_sp (hg _ _ _ ⟨?_, p.1 ++ dd, p.2.st, W1, R1.entry, rl, ?_⟩) hx hdx hne
  · rw [← repL_len rl]
    refine hn _ p.2.st fun z => ?_
    simp only [z] at q; exact q
  · cases e : mg (p.1 ++ dd) p.2.st with
    | ok d =>
      simp only [e, bnd_ok] at q
      exact fun v H' W' a hv => q v H' W' (RR.call R1 a) (s1.trans a.g0) hv
    | exc x st => exact absurd e (nx _ _ _ _)
    | stuck => simp only [e] at q; exact q.elim
/-! properties, methods -/
@[simp] def mProp (C : Addr) (mf : Fn) (m : RE → Out (D × RE)) : RE → Out (D × RE) := fun r => (m r).bnd fun p => match dr p.2.st p.1 with
  | some (.ins C' _) => if C' = C then (mf [p.1] p.2.st).bnd fun q => .ok (q.1, ⟨p.2.s, q.2⟩) else .stuck
  | _ => .stuck
theorem snd_prop {C : Addr} {te : TE} {m : RE → Out (D × RE)} {mf : Fn} (nx : NoXF mf) (h : Snd K E te m) : Snd K E (tProp C (spN K 1 mf) [] E0 te) (mProp C mf m) := fun c σ H W r Q R w => by
  refine h c σ H W r _ R ((Wp.bnd w).mono (fun p q v H1 W1 R1 s1 h1 => ?_) fun _ _ x => x)
  split at q
  · rename_i C' fs e0
    split at q
    · rename_i hc
      subst hc
      obtain ⟨a, dx, us, rfl, ha, la⟩ := h1.at R1 e0
      refine ⟨a, dx, us, rfl, ha, rfl, [p.1], p.2.st, W1, R1.entry, repL_one h1, ?_⟩
      cases e : mf [p.1] p.2.st with
      | ok d =>
        simp only [e, bnd_ok] at q
        exact fun v H' W' a hv => q v H' W' (RR.call R1 a) (s1.trans a.g0) hv
      | exc x st => exact absurd e (nx _ _ _ _)
      | stuck => simp only [e] at q; exact q.elim
    · exact q.elim
  · exact q.elim
@[simp] def mMeth (C : Addr) (mname : Str) (mf : Fn) (dd : List D) (m : RE → Out (D × RE)) (ms : RE → Out (List D × RE)) : RE → Out (D × RE) := fun r => (m r).bnd fun p => match dr p.2.st p.1 with
  | some (.ins C' fs) => if C' = C ∧ (fs.lookup mname).isNone = true then (ms p.2).bnd fun q => (mf (p.1 :: (q.1 ++ dd)) q.2.st).bnd fun z => .ok (z.1, ⟨q.2.s, z.2⟩) else .stuck
  | _ => .stuck
theorem snd_meth {C : Addr} {mname : Str} {te : TE} {ta : TA} {m : RE → Out (D × RE)} {ms : RE → Out (List D × RE)} {n : Nat} {mf : Fn} {dd : List D} {dvs : List V} (hn : HasN n mf) (nx : NoXF mf) (hd : ∀ W, RepL K W dd dvs) (h : Snd K E te m) (ha : SndA K E ta ms) : Snd K E (tMeth C mname (spN K n mf) dvs E0 te ta) (mMeth C mname mf dd m ms) := fun c σ H W r Q R w => by
  refine h c σ H W r _ R ((Wp.bnd w).mono (fun p q v H1 W1 R1 s1 h1 => ?_) fun _ _ x => x)
  split at q
  · rename_i C' fs e0
    split at q
    · rename_i hc
      obtain ⟨rfl, hno⟩ := hc
      obtain ⟨a, dx, us, rfl, hH, la⟩ := h1.at R1 e0
      refine ⟨a, dx, us, rfl, hH, repF_none la (by simpa using hno), ?_⟩
      refine ha c σ H1 W1 p.2 _ R1 ((Wp.bnd q).mono (fun p2 q2 vs H2 W2 R2 s2 h2 => ?_) fun _ _ x => x)
      have rl : RepL K W2 (p.1 :: (p2.1 ++ dd)) (.ref a :: (vs ++ dvs)) := by
        simp only [RepL]
        exact ⟨_, _, rfl, h1.mono s2, repL_app h2 (hd W2)⟩
      refine ⟨?_, p.1 :: (p2.1 ++ dd), p2.2.st, W2, R2.entry, rl, ?_⟩
      · rw [← repL_len rl]
        refine hn _ p2.2.st fun z => ?_
        simp only [z] at q2; exact q2
      · cases e : mf (p.1 :: (p2.1 ++ dd)) p2.2.st with
        | ok d =>
          simp only [e, bnd_ok] at q2
          exact fun v H' W' a hv => q2 v H' W' (RR.call R2 a) ((s1.trans s2).trans a.g0) hv
        | exc x st => exact absurd e (nx _ _ _ _)
        | stuck => simp only [e] at q2; exact q2.elim
    · exact q.elim
  · exact q.elim
end
/-- what is known of a def at f that raises nothing -/
structure FnA (P : Program) (w : World) (K : PySem.W.Frag) (mg : Str → Option Value) (base : Heap) (k : Nat) (f : Addr) (n : Nat) (mf : Fn) (ds : List Value) : Prop where
  ex : ∃ fd ps, FnOk P w K mg base CX0 k f fd ps (spN (⟨K, w⟩ : KW) n mf) ∧ Binds K fd ps ds
  hn : HasN n mf
  nx : NoXF mf
section
variable {P : Program} {w : World} {K : PySem.W.Frag} {mg : Str → Option Value} {base : Heap}
theorem fna_k {x qual : Str} {st : Stmt} {f : Addr} {fd : FuncData} {N ps : List Str} {k : Nat} {mb : RE → Out Fl} {ds : List Value} (F : Fun K x qual st f fd) (S : FnScope N ps (defScope st)) (hbi : Binds K fd ps ds)
    (hb : ∀ (cdv : Value) (A : Around) (outer : List PySem.Env) (s : Shared) (H : Hp) (E : XK), Room k (A.deeper (envOfC qual (defScope st) s.heap.objs.size f cdv)) →
      BM (cxOf CX0 P w K mg base N qual (defScope st) f cdv A outer s H E).nox E0 (defBody st) mb) :
    FnA P w K mg base (k + 1) f ps.length (n0 (fnK ps.length N.length mb)) ds := ⟨⟨fd, ps, fn_0 F S hb, hbi⟩, hn_0 hn_k, nxf_0⟩
theorem FnA.cut {k n : Nat} {f : Addr} {mf : Fn} {ds : List Value} (F : FnA P w K mg base k f n mf ds) : FnA P w K mg base k f n (cutF mf) ds :=
  let ⟨fd, ps, h1, h2⟩ := F.ex; ⟨⟨fd, ps, h1.imp fun vs H Q E h => sp_cut h, h2⟩, hn_c F.hn, nxf_c F.nx⟩
theorem FnA.mono {k j n : Nat} {f : Addr} {mf : Fn} {ds : List Value} (F : FnA P w K mg base k f n mf ds) (h : k ≤ j) : FnA P w K mg base j f n mf ds :=
  let ⟨fd, ps, h1, h2⟩ := F.ex; ⟨⟨fd, ps, h1.mono h, h2⟩, F.hn, F.nx⟩
end
section
variable {X : Cx} {E : XK} {a b c e o : PySem.Expr} {es : List PySem.Expr} {pos p tpos apos : Pos} {x f : Str} {C g : Addr}
variable {ma mb m oa ob mo mv : RE → Out (D × RE)} {as_ : RE → Out (List D × RE)}
theorem em_fld (C : Addr) (hC : Cls X.K C) (hN : NoAttr X.K C f) (h : EM X E e m) (hb : attributeBase e f X.env (eval e X.env) = eval e X.env := by rfl) : EM X E (.Attribute e f pos) (mFld C f m) := let ⟨_, h1, h2⟩ := h; ⟨_, pe_fld h1 hb, snd_fld hC hN h2⟩
theorem pm_fld (C : Addr) (hC : Cls X.K C) (hN : NoAttr X.K C f) (h : PathM X e m) (hb : attributeBase e f X.env (eval e X.env) = eval e X.env := by rfl) : PathM X (.Attribute e f pos) (mFld C f m) := let ⟨_, h1, h2, h3⟩ := h; ⟨_, pe_fld h1 hb, path_fld hC hN h2, nx_fld h3⟩
theorem sm_fld (C : Addr) (hC : Cls X.K C) (hN : NoAttr X.K C f) (ho : EM X E o mo) (hv : EM X E e mv) (hs : swapsWith e (some (.Attribute o f tpos)) pos.line X.env = pure false := by rfl) : SM X E (.Assign [.Attribute o f tpos] e pos) (mSetF C f mo mv) := let ⟨_, o1, o2⟩ := ho; let ⟨_, v1, v2⟩ := hv; ⟨_, ps_fld o1 v1 hs, snds_fld hC hN o2 v2⟩
/-- C(..), frozen as soon as it stands -/
theorem em_make {k j n : Nat} {mf : Fn} {dd : List D} {dvs : List V} {ds : List Value} (M : Mk X.K C g) (F : FnA X.prog X.w X.K X.mg X.base k g (n + 1) mf ds) (hr : Room j X.A) (hm : X.mg x = some (.ref C)) (hd : Vals dvs ds) (hdd : ∀ W, RepL X.kw W dd dvs) (h : AM X E (e :: es) as_) (hj : k + 1 ≤ j := by decide) (hg : Gl X x := by rfl)
    (hdb : (x == ("__debug__" : Str)) = false := by decide) (he : starEach (e :: es) X.env = (false, eval e X.env) :: starEach es X.env := by rfl) (hpl : (backTo pos (starEach es X.env)).any (·.1) = false := by rfl) :
    EM X E (.Call (.Name x p) (e :: es) [] pos) (mCall (cutF (mkF C mf)) dd as_) := by
  obtain ⟨_, h1, h2⟩ := h
  obtain ⟨fd, ps, F1, F2⟩ := F.ex
  exact ⟨_, pe_make M F1 (hr.mono hj) hg hm F2 hd pass0 h1 hdb he hpl, snd_make (hn_c (hn_mk F.hn)) (nxf_c (nxf_mk F.nx)) (fun _ _ _ h => sp_cut h) hdd h2⟩
/-- C(..), as a cell -/
theorem em_makeK {k j n : Nat} {mf : Fn} {dd : List D} {dvs : List V} {ds : List Value} (M : Mk X.K C g) (F : FnA X.prog X.w X.K X.mg X.base k g (n + 1) mf ds) (hr : Room j X.A) (hm : X.mg x = some (.ref C)) (hd : Vals dvs ds) (hdd : ∀ W, RepL X.kw W dd dvs) (h : AM X E (e :: es) as_) (hj : k + 1 ≤ j := by decide) (hg : Gl X x := by rfl)
    (hdb : (x == ("__debug__" : Str)) = false := by decide) (he : starEach (e :: es) X.env = (false, eval e X.env) :: starEach es X.env := by rfl) (hpl : (backTo pos (starEach es X.env)).any (·.1) = false := by rfl) :
    EM X E (.Call (.Name x p) (e :: es) [] pos) (mCall (mkF C mf) dd as_) := by
  obtain ⟨_, h1, h2⟩ := h
  obtain ⟨fd, ps, F1, F2⟩ := F.ex
  exact ⟨_, pe_make M F1 (hr.mono hj) hg hm F2 hd pass0 h1 hdb he hpl, snd_make (hn_mk F.hn) (nxf_mk F.nx) (fun _ _ _ h => h) hdd h2⟩
theorem em_prop {k j : Nat} {mf : Fn} {q : Addr} (hC : Cls X.K C) (hp : PropOf X.K C f q g) (F : FnA X.prog X.w X.K X.mg X.base k g 1 mf []) (hr : Room j X.A) (h : EM X E e m) (hj : k + 1 ≤ j := by decide) (hab : attributeBase e f X.env (eval e X.env) = eval e X.env := by rfl) : EM X E (.Attribute e f pos) (mProp C mf m) := by
  obtain ⟨_, h1, h2⟩ := h
  obtain ⟨fd, ps, F1, F2⟩ := F.ex
  exact ⟨_, pe_prop h1 hC hp F1 (hr.mono hj) F2 .nil pass0 hab, snd_prop F.nx h2⟩
end
end Mir
set_option maxHeartbeats 400000
namespace Mir
open PySem PySem.Spec PyProof.Rows L2
section
variable {P : Program} {w : World} {K : PySem.W.Frag} {mg : Str → Option Value} {base : Heap}
/-- a def with one default, None -/
theorem funD_mk {x qual : Str} {st : Stmt} {f T : Addr} {oc tc : Value} {od an td : Option Addr} {osl tsl : Array (Option Value)} {kV doc pm cdv ct : Value} {n : Nat} (l : K.lookup f = some ⟨oc, od, .func (PySem.W.fnOf x qual (defArgs st) (defBody st) (defScope st) (.ref T) kV doc pm an cdv ct), osl⟩)
    (c : PySem.W.codeIn K cdv qual = true) (k : PySem.W.keepIn K (.ref f) = true) (t : K.lookup T = some ⟨tc, td, .seq #[.none] n, tsl⟩) : FunD K x qual (defArgs st) (defBody st) (defScope st) [.non] [] f (PySem.W.fnOf x qual (defArgs st) (defBody st) (defScope st) (.ref T) kV doc pm an cdv ct) :=
  ⟨⟨oc, od, .ref T, kV, doc, pm, an, cdv, ct, osl, rfl, l, c, .inr ⟨by simp, T, _, [.none], n, rfl, t, rfl, .cons rfl .nil⟩, .inl rfl⟩, k⟩
theorem fnaD_k {x qual : Str} {st : Stmt} {f : Addr} {fd : FuncData} {N ps : List Str} {k : Nat} {mb : RE → Out Fl} {ds : List Value} {dvs : List V} (F : FunD K x qual (defArgs st) (defBody st) (defScope st) dvs [] f fd) (S : FnScope N ps (defScope st)) (hbi : Binds K fd ps ds)
    (hb : ∀ (cdv : Value) (A : Around) (outer : List PySem.Env) (s : Shared) (H : Hp) (E : XK), Room k (A.deeper (envOfC qual (defScope st) s.heap.objs.size f cdv)) →
      BM (cxOf CX0 P w K mg base N qual (defScope st) f cdv A outer s H E).nox E0 (defBody st) mb) :
    FnA P w K mg base (k + 1) f ps.length (n0 (fnK ps.length N.length mb)) ds := by
  refine ⟨⟨fd, ps, ?_, hbi⟩, hn_0 hn_k, nxf_0⟩
  refine F.ok S (fun vs H Q E h => h.1) (fun cdv A outer s H vs Q E hr h => ?_)
  obtain ⟨hl, ds, sto, W, R, rep, wp⟩ := h
  obtain ⟨ts, hp, hs⟩ := hb cdv A outer s H E hr
  refine ⟨ts, PSs.nox hp, hs _ _ _ _ _ _ (rr_start R rep) (body_post ?_)⟩
  unfold n0 fnK at wp
  split at wp
  · exact wp.noX
  · exact wp.elim
theorem FnA.nil {k n : Nat} {f : Addr} {mf : Fn} {ds : List Value} (F : FnA P w K mg base k f n mf ds) (h : Vals [] ds) : FnA P w K mg base k f n mf [] := by cases h; exact F
theorem Binds.nil {fd : FuncData} {ps : List Str} (h : ∃ ds, Vals [] ds ∧ Binds K fd ps ds) : Binds K fd ps [] := by
  obtain ⟨ds, h1, h2⟩ := h
  cases h1
  exact h2
/-! ## the end of a law -/
theorem repL_ints {W : Wd} : ∀ ns : List Int, RepL (⟨K, w⟩ : KW) W (ns.map D.int) (ns.map V.int)
  | [] => by simp only [List.map_nil, RepL]
  | n :: ns => by
    rw [List.map_cons, List.map_cons]
    simp only [RepL]
    exact ⟨_, _, rfl, repD_int, repL_ints ns⟩
/-- nothing is a cell ahead of the law's call -/
theorem r0_zero (H : Hp) : R0 (⟨K, w⟩ : KW) (fm0 H ⟨H, []⟩) H ⟨H, []⟩ [] :=
  ⟨Sub.refl H, Le.refl _, fun a u e => .inl (by have e : H a = some u := e; show H a ≠ none; rw [e]; simp), fun a u e => ⟨fun _ => ⟨⟨u, e, rfl⟩, fun _ => e⟩, fun _ _ _ => e⟩, fun a ha => absurd ha (by simp), rfl, fun i d e => by simp at e, rfl, fun i d a h1 h2 => by simp at h2, fun a ha => absurd ha (by simp), by simp, fun p z => absurd z (by simp)⟩
theorem law_end {H : Hp} {a : Addr} {ns : List Int} {m : Fn} {st' : Sto} {Q : VK} {E : XK} (hS : SqL K H a (ns.map V.int)) (e : m [.frl (ns.map D.int)] [] = .ok (.bl true, st')) (k : ∀ H', Q (.bl true) H') : spN (⟨K, w⟩ : KW) 1 m [.ref a] H Q E := by
  refine ⟨rfl, [.frl (ns.map D.int)], [], ⟨H, []⟩, r0_zero H, ?_, ?_⟩
  · simp only [RepL, RepD]
    exact ⟨_, _, rfl, ⟨a, _, rfl, hS, repL_ints ns⟩, rfl⟩
  · rw [e]
    intro v H' W' _ hv
    simp only [RepD] at hv
    subst hv
    exact k H'
end
end Mir
set_option maxHeartbeats 400000
namespace Mir
open PySem PySem.Spec PyProof.Rows L2
theorem nl_d1 {f : D → Out D} {as_ : RE → Out (List D × RE)} (h : ∀ a d, f a = .ok d → isLck d = false) : NL (mArgs (d1 f) as_) := nl_args fun ds d e => by
  unfold d1 at e
  split at e
  · exact h _ _ e
  · cases e
theorem nl_listD {as_ : RE → Out (List D × RE)} : NL (mArgs (d1 dListD) as_) := nl_d1 fun a d e => by cases a <;> cases e <;> rfl
/-! bundles -/
section
variable {P : Program} {w : World} {K : PySem.W.Frag} {mg : Str → Option Value} {base : Heap}
structure Prp (P : Program) (w : World) (K : PySem.W.Frag) (mg : Str → Option Value) (base : Heap) (k : Nat) (C : Addr) (f : Str) (mf : Fn) : Prop where
  ex : ∃ q g, PropOf K C f q g ∧ FnA P w K mg base k g 1 mf []
theorem Prp.cut {k : Nat} {C : Addr} {f : Str} {mf : Fn} (h : Prp P w K mg base k C f mf) : Prp P w K mg base k C f (cutF mf) := let ⟨q, g, h1, h2⟩ := h.ex; ⟨q, g, h1, h2.cut⟩
structure Mkr (P : Program) (w : World) (K : PySem.W.Frag) (mg : Str → Option Value) (base : Heap) (k : Nat) (x : Str) (C : Addr) (n : Nat) (mf : Fn) : Prop where
  ex : ∃ g, Mk K C g ∧ mg x = some (.ref C) ∧ FnA P w K mg base k g (n + 1) mf []
structure Mth (P : Program) (w : World) (K : PySem.W.Frag) (mg : Str → Option Value) (base : Heap) (k : Nat) (C : Addr) (m : Str) (n : Nat) (mf : Fn) : Prop where
  ex : ∃ g, Cls K C ∧ Meth K C m g ∧ FnA P w K mg base k g n mf []
theorem Mth.cut {k n : Nat} {C : Addr} {f : Str} {mf : Fn} (h : Mth P w K mg base k C f n mf) : Mth P w K mg base k C f n (cutF mf) := let ⟨g, h1, h2, h3⟩ := h.ex; ⟨g, h1, h2, h3.cut⟩
/-- a def that is not called: the bottom of a recursion -/
def stuckF : Fn := fun _ _ => .stuck
theorem fn0_stuck {x qual : Str} {st : Stmt} {f : Addr} {fd : FuncData} {ps : List Str} (F : Fun K x qual st f fd) (hg : mg x = some (.ref f)) (hbi : Binds K fd ps []) (k n : Nat) : Fn0 P w K mg base k x n stuckF where
  ex := ⟨f, fd, ps, ⟨fun vs H Q E h => by obtain ⟨_, ds, st, W, _, _, h⟩ := h; exact h.elim, fun A outer s H args us vs Q E hr e0 hb hv h => by obtain ⟨_, ds, st, W, _, _, h⟩ := h; exact h.elim⟩, hg, F.kp, hbi⟩
  hn := fun ds st h => absurd rfl h
  nx := fun ds st x st' h => by cases h
end
section
variable {X : Cx} {E : XK} {e o : PySem.Expr} {es : List PySem.Expr} {pos p apos : Pos} {x f : Str} {C : Addr} {m mo : RE → Out (D × RE)} {as_ : RE → Out (List D × RE)}
theorem em_prp {k j : Nat} {mf : Fn} (hC : Cls X.K C) (F : Prp X.prog X.w X.K X.mg X.base k C f mf) (hr : Room j X.A) (h : EM X E e m) (hj : k + 1 ≤ j := by decide) (hab : attributeBase e f X.env (eval e X.env) = eval e X.env := by rfl) : EM X E (.Attribute e f pos) (mProp C mf m) :=
  let ⟨_, _, h1, h2⟩ := F.ex; em_prop hC h1 h2 hr h hj hab
/-- C(..), all parameters written -/
theorem em_mkr {k j n : Nat} {mf : Fn} (F : Mkr X.prog X.w X.K X.mg X.base k x C n mf) (hr : Room j X.A) (h : AM X E (e :: es) as_) (hj : k + 1 ≤ j := by decide) (hg : Gl X x := by rfl)
    (hdb : (x == ("__debug__" : Str)) = false := by decide) (he : starEach (e :: es) X.env = (false, eval e X.env) :: starEach es X.env := by rfl) (hpl : (backTo pos (starEach es X.env)).any (·.1) = false := by rfl) :
    EM X E (.Call (.Name x p) (e :: es) [] pos) (mCall (cutF (mkF C mf)) [] as_) := let ⟨_, h1, h2, h3⟩ := F.ex; em_make h1 h3 hr h2 .nil (fun _ => by simp only [RepL]) h hj hg hdb he hpl
theorem em_mkrK {k j n : Nat} {mf : Fn} (F : Mkr X.prog X.w X.K X.mg X.base k x C n mf) (hr : Room j X.A) (h : AM X E (e :: es) as_) (hj : k + 1 ≤ j := by decide) (hg : Gl X x := by rfl)
    (hdb : (x == ("__debug__" : Str)) = false := by decide) (he : starEach (e :: es) X.env = (false, eval e X.env) :: starEach es X.env := by rfl) (hpl : (backTo pos (starEach es X.env)).any (·.1) = false := by rfl) :
    EM X E (.Call (.Name x p) (e :: es) [] pos) (mCall (mkF C mf) [] as_) := let ⟨_, h1, h2, h3⟩ := F.ex; em_makeK h1 h3 hr h2 .nil (fun _ => by simp only [RepL]) h hj hg hdb he hpl
end
/-! plain: a cut of what holds no cell of its own -/
theorem cut_pure {m : Fn} {ds : List D} {st j : Sto} {d : D} (h : m ds st = .ok (d, st ++ j)) (ok : okC st.length d = true) : cutF m ds st = .ok (d, st) := by
  unfold cutF
  rw [h]
  simp only [cutR, cutSt_app, rsv_ok ok]
theorem cut_pure0 {m : Fn} {ds : List D} {st : Sto} {d : D} (h : m ds st = .ok (d, st)) (ok : okC st.length d = true) : cutF m ds st = .ok (d, st) := cut_pure (j := []) (by rw [List.append_nil]; exact h) ok
theorem cut_rsv {m : Fn} {ds : List D} {st j : Sto} {d d' : D} (h : m ds st = .ok (d, st ++ j)) (ok : rsv (st ++ j) st.length 20 d = some d') : cutF m ds st = .ok (d', st) := by
  unfold cutF
  rw [h]
  simp only [cutR, cutSt_app, ok]
end Mir
namespace Mir
/-- where the classes of the text stand -/
structure Cl where
  Machine : PySem.Addr
  Watch : PySem.Addr
  Post : PySem.Addr
  Views : PySem.Addr
  Trial : PySem.Addr
  KnowError : PySem.Addr
  BadState : PySem.Addr
  BadSteps : PySem.Addr
  BadFaults : PySem.Addr
  NotLive : PySem.Addr
  BadWord : PySem.Addr
  BadWatch : PySem.Addr
  BadWatches : PySem.Addr
  BadRun : PySem.Addr
  BadSights : PySem.Addr
  NoFault : PySem.Addr
  BadCount : PySem.Addr
  BadCosts : PySem.Addr
  BadRows : PySem.Addr
  BadProbes : PySem.Addr
  TooMany : PySem.Addr
  NotText : PySem.Addr
  NothingDone : PySem.Addr
end Mir
set_option maxHeartbeats 400000
namespace Mir
open PySem PySem.Spec PyProof.Rows L2
/-! ## == by an own __eq__ -/
@[simp] def mEqO (C : Addr) (mf : Fn) (ma mb : RE → Out (D × RE)) : RE → Out (D × RE) := fun r => (ma r).bnd fun p => (mb p.2).bnd fun q => match dr q.2.st p.1, dr q.2.st q.1 with
  | some (.ins A _), some (.ins B _) => if A = C ∧ B = C then (mf [p.1, q.1] q.2.st).bnd fun z => match z.1 with
      | .bl k => .ok (.bl k, ⟨q.2.s, z.2⟩)
      | _ => .stuck
    else .stuck
  | _, _ => .stuck
structure EqO (P : Program) (w : World) (K : PySem.W.Frag) (mg : Str → Option Value) (base : Heap) (k : Nat) (C : Addr) (mf : Fn) : Prop where
  ex : ∃ g, PySem.W.findIn K (.ref C) "__eq__" = some (some (.ref g)) ∧ PySem.W.isFn K (.ref g) = true ∧ FnA P w K mg base k g 2 mf []
theorem EqO.cut {P : Program} {w : World} {K : PySem.W.Frag} {mg : Str → Option Value} {base : Heap} {k : Nat} {C : Addr} {mf : Fn} (h : EqO P w K mg base k C mf) : EqO P w K mg base k C (cutF mf) := let ⟨g, h1, h2, h3⟩ := h.ex; ⟨g, h1, h2, h3.cut⟩
end Mir
set_option maxHeartbeats 400000
namespace Mir
open PySem PySem.Spec PyProof.Rows L2
/-! ## isinstance(x, C), C an own class -/
structure IsO (K : PySem.W.Frag) (C : Addr) : Prop where
  ins : C8.InsC K C
  no : ∀ t ∈ ["NoneType", "bool", "int", "str", "tuple", "list", "dict"], PySem.W.kitOne K (.type t) (.ref C) = some false
@[simp] def mIsO (C : Addr) (m : RE → Out (D × RE)) : RE → Out (D × RE) := fun r => (m r).bnd fun p => match dr p.2.st p.1 with
  | some (.ins A _) => if A = C then .ok (.bl true, p.2) else .stuck
  | some d => match tyName d with
    | some _ => .ok (.bl false, p.2)
    | none => .stuck
  | none => .stuck
end Mir
set_option maxHeartbeats 400000
namespace Mir
open PySem PySem.Spec PyProof.Rows L2
/-! ## list(d.values()) -/
@[simp] def dListV : D → Out D
  | .dic kvs => .ok (.lst (kvs.map kvVal))
  | _ => .stuck
end Mir
namespace Lm
open PySem L2 Mir
noncomputable def b_is_integer (C : Cl) : RE → Out Fl :=
      (mRet (mAnd (mArgs (d2 dIsi) (mCons (mVar 0) (mCons (mC (.ty "int")) mNil))) (mNot (mArgs (d2 dIsi) (mCons (mVar 0) (mCons (mC (.ty "bool")) mNil))))))
noncomputable def k_is_integer (C : Cl) : Fn := n0 (fnK 1 1 (b_is_integer C))
noncomputable def f_is_integer (C : Cl) : Fn := cutF (k_is_integer C)
noncomputable def b_is_count (C : Cl) : RE → Out Fl :=
      (mRet (mAnd (mCall (f_is_integer C) [] (mCons (mVar 0) mNil)) (mChain dLe dLe (mC (.int 0)) (mVar 0) (mVar 1))))
noncomputable def k_is_count (C : Cl) : Fn := n0 (fnK 2 2 (b_is_count C))
noncomputable def f_is_count (C : Cl) : Fn := cutF (k_is_count C)
noncomputable def b_is_state (C : Cl) : RE → Out Fl :=
      (mRet (mCall (f_is_count C) [] (mCons (mVar 0) (mCons (mC (.int 99)) mNil))))
noncomputable def k_is_state (C : Cl) : Fn := n0 (fnK 1 1 (b_is_state C))
noncomputable def f_is_state (C : Cl) : Fn := cutF (k_is_state C)
noncomputable def l_is_name_1 (C : Cl) : RE → Out Fl :=
      (mIf (mBool (mOp2 dNotIn (mVar 1) (mC (.str (Str.ofString "abcdefghijklmnopqrstuvwxyz")))))
          (mRet (mC (.bl false)))
          mNext)
noncomputable def b_is_name (C : Cl) : RE → Out Fl :=
      (mSeq (mIf (mTOr (mTNot (mTruth (mArgs (d2 dIsi) (mCons (mVar 0) (mCons (mC (.ty "str")) mNil))))) (mTNot (mBool (mChain dLe dLe (mC (.int 1)) (mArgs (d1 dLenA) (mCons (mVar 0) mNil)) (mC (.int 12))))))
        (mRet (mC (.bl false)))
        mNext)
      (mSeq (mForW anyI (mVar 0) (stName 1) (l_is_name_1 C))
      (mRet (mC (.bl true)))))
noncomputable def k_is_name (C : Cl) : Fn := n0 (fnK 1 2 (b_is_name C))
noncomputable def f_is_name (C : Cl) : Fn := cutF (k_is_name C)
noncomputable def b_is_row (C : Cl) : RE → Out Fl :=
      (mRet (mArgs (d2 dIsiT) (mCons (mVar 0) (mCons (mTup (mCons (mC (.ty "list")) (mCons (mC (.ty "tuple")) mNil))) mNil))))
noncomputable def k_is_row (C : Cl) : Fn := n0 (fnK 1 1 (b_is_row C))
noncomputable def f_is_row (C : Cl) : Fn := cutF (k_is_row C)
noncomputable def b_is_step (C : Cl) : RE → Out Fl :=
      (mSeq (mIf (mTOr (mTNot (mTruth (mArgs (d2 dIsi) (mCons (mVar 0) (mCons (mC (.ty "tuple")) mNil))))) (mBool (mOp2 dNeK (mArgs (d1 dLenA) (mCons (mVar 0) mNil)) (mC (.int 3)))))
        (mRet (mC (.bl false)))
        mNext)
      (mRet (mAnd (mCall (f_is_state C) [] (mCons (mOp2 dIxA (mVar 0) (mC (.int 0))) mNil)) (mAnd (mCall (f_is_name C) [] (mCons (mOp2 dIxA (mVar 0) (mC (.int 1))) mNil)) (mCall (f_is_state C) [] (mCons (mOp2 dIxA (mVar 0) (mC (.int 2))) mNil))))))
noncomputable def k_is_step (C : Cl) : Fn := n0 (fnK 1 1 (b_is_step C))
noncomputable def f_is_step (C : Cl) : Fn := cutF (k_is_step C)
noncomputable def l_checked_steps_1 (C : Cl) : RE → Out Fl :=
      (mSeq (mIf (mTOr (mTNot (mTruth (mCall (f_is_step C) [] (mCons (mVar 4) mNil)))) (mBool (mOp2 dIn (mVar 4) (mVar 1))))
          mNoS
          mNext)
        (mSeq (mPut (mVar 2) (mOp2 dIxA (mVar 4) (mC (.int 0))) (mOp2 dAdd (mGet (mVar 2) (mOp2 dIxA (mVar 4) (mC (.int 0))) (mC (.int 0))) (mC (.int 1))))
        (mSeq (mIf (mBool (mOp2 dGt (mOp2 dIxA (mVar 2) (mOp2 dIxA (mVar 4) (mC (.int 0)))) (mC (.int 8))))
          mNoS
          mNext)
        (mDrop (mMut (mVar 1) "list" fAppend (mCons (mVar 4) mNil))))))
noncomputable def b_checked_steps (C : Cl) : RE → Out Fl :=
      (mSeq (mIf (mTOr (mTNot (mTruth (mCall (f_is_row C) [] (mCons (mVar 0) mNil)))) (mTNot (mBool (mChain dLe dLe (mC (.int 1)) (mArgs (d1 dLenA) (mCons (mVar 0) mNil)) (mC (.int 80))))))
        mNoS
        mNext)
      (mSeq (mSet 1 (mCell (mLst mNil)))
      (mSeq (mSet 2 (mCell mDnew))
      (mSeq (mForW enumI (mVar 0) (stUnp 2 (stCons (stName 3) (stCons (stName 4) stNil))) (l_checked_steps_1 C))
      (mRet (mVar 1))))))
noncomputable def k_checked_steps (C : Cl) : Fn := n0 (fnK 1 5 (b_checked_steps C))
noncomputable def f_checked_steps (C : Cl) : Fn := cutF (k_checked_steps C)
noncomputable def l_checked_faults_1 (C : Cl) : RE → Out Fl :=
      (mSeq (mIf (mTOr (mTNot (mTruth (mCall (f_is_name C) [] (mCons (mVar 3) mNil)))) (mTOr (mBool (mOp2 dNotIn (mVar 3) (mVar 1))) (mTNot (mTruth (mCall (f_is_name C) [] (mCons (mVar 4) mNil))))))
          mNoS
          mNext)
        (mSeq (mIf (mBool (mOp2 dNotIn (mVar 4) (mVar 2)))
          (mDrop (mMut (mVar 2) "list" fAppend (mCons (mVar 4) mNil)))
          mNext)
        (mIf (mBool (mOp2 dGt (mArgs (d1 dLenA) (mCons (mVar 2) mNil)) (mC (.int 3))))
          mNoS
          mNext)))
noncomputable def l_checked_faults_2 (C : Cl) : RE → Out (Bool × RE) :=
      (mBool (mOp2 dIn (mVar 3) (mVar 0)))
noncomputable def l_checked_faults_3 (C : Cl) : RE → Out (List D × RE) :=
      (mCons (mVar 3) (mCons (mOp2 dIxA (mVar 0) (mVar 3)) mNil))
noncomputable def b_checked_faults (C : Cl) : RE → Out Fl :=
      (mSeq (mIf (mBool (mOp2 dIs (mVar 0) (mC .non)))
        (mRet mDnew)
        mNext)
      (mSeq (mIf (mTNot (mTruth (mArgs (d2 dIsi) (mCons (mVar 0) (mCons (mC (.ty "dict")) mNil)))))
        mNoS
        mNext)
      (mSeq (mSet 2 (mCell (mLst mNil)))
      (mSeq (mForW itemsI (mVar 0) (stUnp 2 (stCons (stName 3) (stCons (stName 4) stNil))) (l_checked_faults_1 C))
      (mRet (mDicOf (mCGW anyI [3] (mVar 1) (stName 3) (l_checked_faults_2 C) (l_checked_faults_3 C) appD [])))))))
noncomputable def k_checked_faults (C : Cl) : Fn := n0 (fnK 2 5 (b_checked_faults C))
noncomputable def f_checked_faults (C : Cl) : Fn := cutF (k_checked_faults C)
noncomputable def b_law_mix (C : Cl) : RE → Out Fl :=
      (mSeq (mSet 2 (mOp2 dMod (mOp2 dMul (mArgs (d1 dInt) (mCons (mOp2 dAdd (mOp2 dAdd (mArgs (d1 dInt) (mCons (mVar 0) mNil)) (mOp2 dMul (mC (.int 7919)) (mVar 1))) (mC (.int 1))) mNil)) (mC (.int 48271))) (mC (.int 2147483647))))
      (mSeq (mSet 2 (mOp2 dMod (mArgs (d1 dInt) (mCons (mOp2 dMul (mVar 2) (mOp2 dAdd (mOp2 dDiv (mVar 2) (mC (.int 1009))) (mC (.int 69621)))) mNil)) (mC (.int 2147483647))))
      (mRet (mOp2 dMod (mArgs (d1 dInt) (mCons (mOp2 dMul (mVar 2) (mOp2 dAdd (mOp2 dDiv (mVar 2) (mC (.int 2003))) (mC (.int 40692)))) mNil)) (mC (.int 2147483399))))))
noncomputable def k_law_mix (C : Cl) : Fn := n0 (fnK 2 3 (b_law_mix C))
noncomputable def f_law_mix (C : Cl) : Fn := cutF (k_law_mix C)
noncomputable def b_law_cell (C : Cl) : RE → Out Fl :=
      (mSeq (mIf (mBool (mOp2 dLt (mVar 1) (mArgs (d1 dLenA) (mCons (mVar 0) mNil))))
        (mRet (mArgs (d1 dInt) (mCons (mOp2 dIxA (mVar 0) (mVar 1)) mNil)))
        mNext)
      (mSeq (mIf (mBool (mOp2 dEqK (mArgs (d1 dLenA) (mCons (mVar 0) mNil)) (mC (.int 0))))
        (mRet (mVar 1))
        mNext)
      (mRet (mCall (f_law_mix C) [] (mCons (mOp2 dIxA (mVar 0) (mOp2 dMod (mArgs (d1 dInt) (mCons (mVar 1) mNil)) (mArgs (d1 dLenA) (mCons (mVar 0) mNil)))) (mCons (mVar 1) mNil))))))
noncomputable def k_law_cell (C : Cl) : Fn := n0 (fnK 2 2 (b_law_cell C))
noncomputable def f_law_cell (C : Cl) : Fn := cutF (k_law_cell C)
noncomputable def l_law_row_1 (C : Cl) : RE → Out Fl :=
      (mIf (mBool (mOp2 dGe (mVar 0) (mOp2 dPow (mC (.int 10)) (mC (.int 18)))))
          (mSeq (mDrop (mMut (mVar 2) "list" fAppend (mCons (mOp2 dMod (mArgs (d1 dInt) (mCons (mVar 3) mNil)) (mOp2 dIxA (mVar 1) (mVar 4))) mNil)))
          (mSet 3 (mOp2 dDiv (mVar 3) (mOp2 dIxA (mVar 1) (mVar 4)))))
          (mDrop (mMut (mVar 2) "list" fAppend (mCons (mOp2 dMod (mArgs (d1 dInt) (mCons (mCall (f_law_mix C) [] (mCons (mVar 0) (mCons (mVar 4) mNil))) mNil)) (mOp2 dIxA (mVar 1) (mVar 4))) mNil))))
noncomputable def b_law_row (C : Cl) : RE → Out Fl :=
      (mSeq (mSet 2 (mCell (mLst mNil)))
      (mSeq (mSet 3 (mArgs (d1 dInt) (mCons (mVar 0) mNil)))
      (mSeq (mFor (mRng1 (mArgs (d1 dLenA) (mCons (mVar 1) mNil))) (stName 4) (l_law_row_1 C))
      (mRet (mVar 2)))))
noncomputable def k_law_row (C : Cl) : Fn := n0 (fnK 2 5 (b_law_row C))
noncomputable def f_law_row (C : Cl) : Fn := cutF (k_law_row C)
noncomputable def l_law_names_1 (C : Cl) : RE → Out (Bool × RE) :=
      mYes
noncomputable def l_law_names_2 (C : Cl) : RE → Out (D × RE) :=
      (mOp2 dIxA (mC (.str (Str.ofString "abcdefghijklm"))) (mVar 9))
noncomputable def l_law_names_3 (C : Cl) : RE → Out Fl :=
      (mSeq (mSet 5 (mCut dCut (mVar 2) (mPart (mOp2 dAdd (mC (.int 3)) (mOp2 dMul (mC (.int 6)) (mVar 4)))) (mPart (mOp2 dAdd (mC (.int 9)) (mOp2 dMul (mC (.int 6)) (mVar 4))))))
        (mSeq (mIf (mBool (mOp2 dEqK (mOp2 dIxA (mVar 2) (mC (.int 1))) (mC (.int 1))))
          (mSet 5 (mCut dCut (mVar 2) (mPart (mC (.int 3))) (mPart (mC (.int 9)))))
          mNext)
        (mSeq (mSet 6 (mOp1 (dJoin (Str.ofString "")) (mComp [9] (mItem asQ (mCut dCut (mVar 5) (mPart (mC (.int 1))) (mPart (mOp2 dAdd (mC (.int 1)) (mOp2 dIxA (mVar 5) (mC (.int 0))))))) (stName 9) (l_law_names_1 C) (l_law_names_2 C))))
        (mSeq (mSet 7 (mOp2 dMod (mArgs (d1 dInt) (mCons (mOp2 dIxA (mVar 2) (mC (.int 2))) mNil)) (mOp2 dAdd (mArgs (d1 dLenA) (mCons (mVar 6) mNil)) (mC (.int 1)))))
        (mSeq (mSet 8 (mOp2 dIxA (mC (.str (Str.ofString "nopqrstuvwxyz"))) (mOp2 dMod (mArgs (d1 dInt) (mCons (mOp2 dAdd (mOp2 dIxA (mVar 2) (mC (.int 0))) (mOp2 dMul (mC (.int 5)) (mVar 4))) mNil)) (mC (.int 13)))))
        (mDrop (mMut (mVar 3) "list" fAppend (mCons (mOp2 dAdd (mOp2 dAdd (mCut dCutS (mVar 6) mNoP (mPart (mVar 7))) (mVar 8)) (mCut dCutS (mVar 6) (mPart (mVar 7)) mNoP)) mNil))))))))
noncomputable def b_law_names (C : Cl) : RE → Out Fl :=
      (mSeq (mSet 2 (mCall (f_law_row C) [] (mCons (mVar 0) (mCons (mOp2 dAdd (mLst (mCons (mC (.int 13)) (mCons (mC (.int 2)) (mCons (mC (.int 6)) mNil)))) (mOp2 dMul (mLst (mCons (mC (.int 6)) (mCons (mC (.int 13)) (mCons (mC (.int 13)) (mCons (mC (.int 13)) (mCons (mC (.int 13)) (mCons (mC (.int 13)) mNil))))))) (mVar 1))) mNil))))
      (mSeq (mSet 3 (mCell (mLst mNil)))
      (mSeq (mFor (mRng1 (mVar 1)) (stName 4) (l_law_names_3 C))
      (mRet (mVar 3)))))
noncomputable def k_law_names (C : Cl) : Fn := n0 (fnK 2 10 (b_law_names C))
noncomputable def f_law_names (C : Cl) : Fn := cutF (k_law_names C)
noncomputable def b_law_is_integer (C : Cl) : RE → Out Fl :=
      (mRet (mAnd (mArgs (d2 dIsi) (mCons (mVar 0) (mCons (mC (.ty "int")) mNil))) (mNot (mArgs (d2 dIsi) (mCons (mVar 0) (mCons (mC (.ty "bool")) mNil))))))
noncomputable def k_law_is_integer (C : Cl) : Fn := n0 (fnK 1 1 (b_law_is_integer C))
noncomputable def f_law_is_integer (C : Cl) : Fn := cutF (k_law_is_integer C)
noncomputable def l_law_exact_1 (C : Cl) (r_law_exact : Fn) : RE → Out Fl :=
      (mIf (mTNot (mTruth (mCall r_law_exact [] (mCons (mOp2 dIxA (mVar 0) (mVar 2)) (mCons (mOp2 dIxA (mVar 1) (mVar 2)) mNil)))))
            (mRet (mC (.bl false)))
            mNext)
noncomputable def b_law_exact (C : Cl) (r_law_exact : Fn) : RE → Out Fl :=
      (mSeq (mIf (mTOr (mTruth (mArgs (d2 dIsi) (mCons (mVar 1) (mCons (mC (.ty "list")) mNil)))) (mTruth (mArgs (d2 dIsi) (mCons (mVar 1) (mCons (mC (.ty "tuple")) mNil)))))
        (mSeq (mIf (mTAnd (mTruth (mArgs (d2 dIsi) (mCons (mVar 1) (mCons (mC (.ty "list")) mNil)))) (mTNot (mTruth (mArgs (d2 dIsi) (mCons (mVar 0) (mCons (mC (.ty "list")) mNil))))))
          (mRet (mC (.bl false)))
          mNext)
        (mSeq (mIf (mTAnd (mTruth (mArgs (d2 dIsi) (mCons (mVar 1) (mCons (mC (.ty "tuple")) mNil)))) (mTNot (mTruth (mArgs (d2 dIsi) (mCons (mVar 0) (mCons (mC (.ty "tuple")) mNil))))))
          (mRet (mC (.bl false)))
          mNext)
        (mSeq (mIf (mBool (mOp2 dNeK (mArgs (d1 dLenA) (mCons (mVar 0) mNil)) (mArgs (d1 dLenA) (mCons (mVar 1) mNil))))
          (mRet (mC (.bl false)))
          mNext)
        (mSeq (mFor (mRng1 (mArgs (d1 dLenA) (mCons (mVar 1) mNil))) (stName 2) (l_law_exact_1 C r_law_exact))
        (mRet (mC (.bl true)))))))
        mNext)
      (mSeq (mIf (mBool (mOp2 dIs (mVar 1) (mC .non)))
        (mRet (mOp2 dIs (mVar 0) (mC .non)))
        mNext)
      (mSeq (mIf (mTruth (mArgs (d2 dIsi) (mCons (mVar 1) (mCons (mC (.ty "bool")) mNil))))
        (mRet (mAnd (mArgs (d2 dIsi) (mCons (mVar 0) (mCons (mC (.ty "bool")) mNil))) (mOp2 dEqK (mVar 0) (mVar 1))))
        mNext)
      (mSeq (mIf (mTruth (mArgs (d2 dIsi) (mCons (mVar 1) (mCons (mC (.ty "int")) mNil))))
        (mRet (mAnd (mCall (f_law_is_integer C) [] (mCons (mVar 0) mNil)) (mOp2 dEqK (mVar 0) (mVar 1))))
        mNext)
      (mRet (mAnd (mArgs (d2 dIsi) (mCons (mVar 0) (mCons (mC (.ty "str")) mNil))) (mOp2 dEqK (mVar 0) (mVar 1))))))))
noncomputable def f_law_exact (C : Cl) : Nat → Fn
  | 0 => stuckF
  | n + 1 => cutF (n0 (fnK 2 3 (b_law_exact C (f_law_exact C n))))
end Lm
namespace Lm
open PySem L2 Mir
noncomputable def l_is_sight_table_1 (C : Cl) : RE → Out Fl :=
      (mIf (mTOr (mTNot (mTruth (mCall (f_is_name C) [] (mCons (mVar 1) mNil)))) (mTNot (mTruth (mCall (f_is_name C) [] (mCons (mVar 2) mNil)))))
          (mRet (mC (.bl false)))
          mNext)
noncomputable def b_is_sight_table (C : Cl) : RE → Out Fl :=
      (mSeq (mIf (mTNot (mTruth (mArgs (d2 dIsi) (mCons (mVar 0) (mCons (mC (.ty "dict")) mNil)))))
        (mRet (mC (.bl false)))
        mNext)
      (mSeq (mForW itemsI (mVar 0) (stUnp 2 (stCons (stName 1) (stCons (stName 2) stNil))) (l_is_sight_table_1 C))
      (mRet (mC (.bl true)))))
noncomputable def k_is_sight_table (C : Cl) : Fn := n0 (fnK 1 3 (b_is_sight_table C))
noncomputable def f_is_sight_table (C : Cl) : Fn := cutF (k_is_sight_table C)
end Lm
namespace Lm
open PySem L2 Mir
noncomputable def b_law_flag (C : Cl) : RE → Out Fl :=
      (mRet (mAnd (mArgs (d2 dIsi) (mCons (mVar 0) (mCons (mC (.ty "bool")) mNil))) (mOp2 dEqK (mVar 0) (mVar 1))))
noncomputable def k_law_flag (C : Cl) : Fn := n0 (fnK 2 2 (b_law_flag C))
noncomputable def f_law_flag (C : Cl) : Fn := cutF (k_law_flag C)
end Lm
set_option maxHeartbeats 400000
namespace Mir
open PySem PySem.Spec PyProof.Rows L2
theorem kit_self {K : PySem.W.Frag} {C : Addr} : PySem.W.kitOne K (.ref C) (.ref C) = some true := by
  unfold PySem.W.kitOne
  rw [if_pos (by simp)]
theorem kit_no {K : PySem.W.Frag} {C : Addr} {t : String} (h1 : PySem.W.isClsIn K C = true) (h2 : PySem.W.typeIn K (.ref C) = some (.type "type")) (h3 : PySem.W.subIn K (.type t) (.ref C) = some false) : PySem.W.kitOne K (.type t) (.ref C) = some false := by
  unfold PySem.W.kitOne
  rw [if_neg (by simp)]
  unfold PySem.W.kitCls
  have h1' : (PySem.W.clsIn K C).isSome = true := h1
  simp only [h1', h2, beq_self_eq_true, Bool.and_self, if_true]
  exact h3
end Mir
set_option maxHeartbeats 400000
/-! == and != by an own __eq__, whatever stands on the right -/
namespace PySem.W
open PySem PyProof.Rows
section
variable {prog : Program} {w : World} {A A₀ : Around} {E : Value → Shared → Prop} {s : Shared} {K : Frag} {x C L f : Addr} {h₀ : Heap} {m : Str → Option Value} {ox : Obj} {od : Option Obj} {name : Str} {b tb : Value}
theorem ifBound_S {id : String} {M : Model} {args : List Value} {Q : Option Value → Shared → Prop} (X : K.In s.heap) (I : InstAt s.heap x ox C od) (hs : findIn K (.ref C) name = some (some (.builtin id)))
    (hb : ∀ self, bindSpecial (.builtin id) self = pure (.builtin id, [self]))
    (h : wpAny M A (call (.builtin id) (.ref x :: args)) (fun v => Q (some v)) E s) : wpAny M A (callSpecialIfBound? (.ref x) name args) Q E s := by
  simp only [callSpecialIfBound?, bindSpecialIfBound?]
  refine wpAny_holding (wpAny_bind (wpAny_bind (wpAny_bind (I.type.here ((looks_findIn X hs).here ?_)))))
  refine wpAny_bind (wpAny_askSetting (wpAny_ite ?_))
  have fin : wpAny M A (call (.builtin id) ([.ref x] ++ args) >>= fun v => pure (some v)) Q E s := wpAny_bind (wpAny_mono h (fun v s' h' => wpAny_pure h') fun _ _ h' => h')
  split
  · exact wpAny_bind ((Looks.of_pure (hb _)).here (wpAny_pure (by exact fin)))
  · exact wpAny_tryCatch (wpAny_bind ((Looks.of_pure (hb _)).here (wpAny_pure (by exact fin))))
theorem slot_ne : Slot "object" "__ne__" "object.__ne__" :=
  .of (owner := "object") (n := "__ne__") (by rw [typeLookup_type, builtinLookup_eq_fast]; kernel_rfl) (by decide +kernel) (by decide +kernel) (by decide +kernel) (by first | exact .inl (by decide +kernel) | exact .inr (by decide +kernel)) (by rw [isSubtype_type]; kernel_rfl)
open Builtin in
/-- object.__ne__ asks the own __eq__ -/
theorem call_ne {Q : Value → Shared → Prop} (hu : A.in1.units < cLine) (X : K.In s.heap) (I : InstAt s.heap x ox C od) (hm : mroIn K C (.type "object") = some true) (hs : findIn K (.ref C) "__eq__" = some (some (.ref f))) (hf : isFn K (.ref f) = true)
    (h : wpAny (model prog w) A.in1 (call (.ref f) [.ref x, b]) (fun v s' => ∃ k, v = .bool k ∧ Q (.bool (!k)) s') E s) : wpAny (model prog w) A (call (.builtin "object.__ne__") [.ref x, b]) Q E s := by
  refine wpAny_call (codeAny_call_builtin slot_ne.plain F.cmpEntry_ne (check_slot (i := "object.__ne__") (owner := "object") (n := "__ne__") (by decide +kernel) (by decide +kernel) (I.type.andThen (looks_mroIn X hm)) (F.cmpArgs_ne _ _) ?_))
  unfold Builtin.«object.__ne__»
  refine wpAny_bind (m := slotArgs "__ne__" 1 _) (wpAny_pure ?_)
  refine wpAny_bind (m := cRoomFor _ _) (wpAny_cRoomFor hu ?_)
  refine wpAny_bind (m := callSpecialIfBound? (.ref x) (Str.ofString "__eq__") _) (ifBound_K X I hs hf (wpAny_mono h (fun r s' hq => ?_) fun _ _ y => y))
  obtain ⟨k, rfl, q⟩ := hq
  refine wpAny_bind (m := truthy (.bool _)) (wpAny_truthy_bool ?_)
  first | exact wpAny_pure q | exact q
theorem ne_K {Q : Value → Shared → Prop} (hu : A.units + 1 < cLine) (F : Fr h₀ L s.heap m) (X₀ : K.In h₀) (I : InstAt s.heap x ox C od) (hb : Looks (model prog w) s.heap (typeOf b) tb) (hn : notFirst K C tb = true)
    (hm : mroIn K C (.type "object") = some true) (hs : findIn K (.ref C) "__eq__" = some (some (.ref f))) (hne : findIn K (.ref C) "__ne__" = some (some (.builtin "object.__ne__"))) (hf : isFn K (.ref f) = true)
    (h : wpAny (model prog w) A.in1 (call (.ref f) [.ref x, b]) (fun v s' => ∃ k, v = .bool k ∧ Q (.bool (!k)) s') E s) : wpAny (model prog w) A (richCompare .NotEq (.ref x) b) Q E s := by
  have X := X₀.keeps F.keep
  have hu0 : A.units < cLine := Nat.lt_of_succ_lt hu
  have one : wpAny (model prog w) A (tryCompare (.ref x) (cmpInfo .NotEq).2.1 b) (fun r s' => ∃ v, r = some v ∧ Q v s') E s := by
    unfold tryCompare
    refine wpAny_bind (ifBound_S X I hne slot_ne.bind (call_ne (by exact hu) X I hm hs hf (wpAny_mono h (fun v s' hv => ?_) fun _ _ e => e)))
    obtain ⟨k, rfl, q⟩ := hv
    exact ⟨k, rfl, wpAny_pure ⟨_, rfl, q⟩⟩
  unfold richCompare
  simp only [oneThing_ref]
  refine wpAny_holding (wpAny_bind (wpAny_cRoomFor hu0 ?_))
  refine wpAny_bind (I.type.here (wpAny_bind (hb.here ?_)))
  split
  · rename_i q
    have e : subIn K tb (.ref C) = some false := by
      rcases Bool.or_eq_true_iff.mp hn with e | e
      · rw [beq_iff_eq.mp e] at q; simp at q
      · exact beq_iff_eq.mp e
    refine wpAny_bind ((looks_subIn X e).here ?_)
    simp only [Bool.false_eq_true, if_false]
    refine wpAny_bind (wpAny_mono one (fun r s' z => ?_) fun _ _ e => e)
    obtain ⟨v, rfl, hq⟩ := z
    exact wpAny_pure hq
  · refine wpAny_bind (wpAny_pure ?_)
    simp only [Bool.false_eq_true, if_false]
    refine wpAny_bind (wpAny_mono one (fun r s' z => ?_) fun _ _ e => e)
    obtain ⟨v, rfl, hq⟩ := z
    exact wpAny_pure hq
end
end PySem.W
namespace Mir
open PySem PySem.Spec PyProof.Rows L2
/-- a thing of another own class -/
structure IsX (K : PySem.W.Frag) (C D : Addr) : Prop where
  ins : C8.InsC K D
  no : PySem.W.kitOne K (.ref D) (.ref C) = some false
  sb : PySem.W.subIn K (.ref D) (.ref C) = some false
  ne : D ≠ C
/-- the type of a thing, if it is not told first -/
def TyNot (K : PySem.W.Frag) (C : Addr) (H : Hp) (y : V) : Prop := ∃ t, TyX K H y t ∧ PySem.W.notFirst K C t = true
def rOwnX (K : PySem.W.Frag) (C : Addr) (ng : Bool) (sp : Sp) (E : XK) : R2 := fun x y H Q => ∃ a dx fs, x = .ref a ∧ H a = some (.ins C dx fs) ∧ TyNot K C H y ∧ sp [x, y] H (fun v H' => ∃ k, v = .bl k ∧ Q (.bl (if ng = true then !k else k)) H') E
section
variable {X : Cx} {n : Nat} {C f : Addr} {fd : FuncData} {ps : List Str} {sp : Sp} {E : XK}
theorem op_ownX (F : FnOk X.prog X.w X.K X.mg X.base CX0 n f fd ps sp)
    (hs : PySem.W.findIn X.K (.ref C) "__eq__" = some (some (.ref f))) (hf : PySem.W.isFn X.K (.ref f) = true) (hb : Binds X.K fd ps []) (hr : Room n X.A) : OpR X (compareOp .Eq) (rOwnX X.K C false sp E) := by
  intro pins s σ H x y v u Q I rx ry hq
  obtain ⟨a, dx, fs, rfl, ha, ⟨t, ty, hn⟩, hsp⟩ := hq
  show wpAny (model X.prog X.w) X.A (richCompare .Eq v u) (EP X pins σ Q) X.xe s
  have ry' := ry
  obtain ⟨P, Z, hP, _⟩ := kit_of I ry ty
  cases rx
  obtain ⟨mA, J, _⟩ := ins_get I.hok ha
  obtain ⟨od, J, _⟩ := J.look
  obtain ⟨m, hF⟩ := I.fr
  refine PySem.W.cmp_K (op := .Eq) (tb := t) hr.units0 hF I.ok.mod.kin J (Z.ty _ _ I.kIn hP) hn hs hf ?_
  have hl := F.len _ _ _ _ hsp
  have r2 : Vals [V.ref a, y] [Value.ref a, u] := .cons rfl (.cons ry' .nil)
  refine wpAny_call (codeAny_mono (F.run X.A X.stack s H ⟨[.ref a, u], []⟩ [.ref a, u] [.ref a, y] _ E hr I.env0 (by
    have := hb s [.ref a, u] I.kIn (by simpa using hl)
    simpa using this) r2 hsp) fun r s' hq => ?_)
  cases r with
  | error e => exact hq.elim
  | ok fl =>
    cases fl with
    | ret w =>
      obtain ⟨z, H', I', rz, ⟨k, ez, q⟩⟩ := I.after hq
      subst ez
      cases rz
      exact ⟨.bl k, H', I', rfl, q⟩
    | next => exact False.elim hq
    | brk => exact False.elim hq
    | cont => exact False.elim hq
theorem op_ownN (F : FnOk X.prog X.w X.K X.mg X.base CX0 n f fd ps sp) (hm : PySem.W.mroIn X.K C (.type "object") = some true)
    (hs : PySem.W.findIn X.K (.ref C) "__eq__" = some (some (.ref f))) (hne : PySem.W.findIn X.K (.ref C) "__ne__" = some (some (.builtin "object.__ne__"))) (hf : PySem.W.isFn X.K (.ref f) = true) (hb : Binds X.K fd ps []) (hr : Room (n + 1) X.A) : OpR X (compareOp .NotEq) (rOwnX X.K C true sp E) := by
  intro pins s σ H x y v u Q I rx ry hq
  obtain ⟨a, dx, fs, rfl, ha, ⟨t, ty, hn⟩, hsp⟩ := hq
  show wpAny (model X.prog X.w) X.A (richCompare .NotEq v u) (EP X pins σ Q) X.xe s
  have ry' := ry
  obtain ⟨P, Z, hP, _⟩ := kit_of I ry ty
  cases rx
  obtain ⟨mA, J, _⟩ := ins_get I.hok ha
  obtain ⟨od, J, _⟩ := J.look
  obtain ⟨m, hF⟩ := I.fr
  refine PySem.W.ne_K (tb := t) (by have := hr.units; omega) hF I.ok.mod.kin J (Z.ty _ _ I.kIn hP) hn hm hs hne hf ?_
  have hl := F.len _ _ _ _ hsp
  have r2 : Vals [V.ref a, y] [Value.ref a, u] := .cons rfl (.cons ry' .nil)
  refine wpAny_call (codeAny_mono (F.run X.A.in1 X.stack s H ⟨[.ref a, u], []⟩ [.ref a, u] [.ref a, y] _ E hr.in1 I.env0.in1 (by
    have := hb s [.ref a, u] I.kIn (by simpa using hl)
    simpa using this) r2 hsp) fun r s' hq => ?_)
  cases r with
  | error e => exact hq.elim
  | ok fl =>
    cases fl with
    | ret w =>
      obtain ⟨z, H', I', rz, ⟨k, ez, q⟩⟩ := I.after hq
      subst ez
      cases rz
      exact ⟨k, rfl, .bl (!k), H', I', rfl, q⟩
    | next => exact False.elim hq
    | brk => exact False.elim hq
    | cont => exact False.elim hq
end
/-- what stands on the right -/
def okR (C : Addr) (Ds : List Addr) : D → Bool
  | .ins A _ => decide (A = C ∨ A ∈ Ds)
  | d => (tyName d).isSome
@[simp] def mEqX (C : Addr) (Ds : List Addr) (ng : Bool) (mf : Fn) (ma mb : RE → Out (D × RE)) : RE → Out (D × RE) := fun r => (ma r).bnd fun p => (mb p.2).bnd fun q => match dr q.2.st p.1, dr q.2.st q.1 with
  | some (.ins A _), some e => if A = C ∧ okR C Ds e = true then (mf [p.1, q.1] q.2.st).bnd fun z => match z.1 with
      | .bl k => .ok (.bl (if ng = true then !k else k), ⟨q.2.s, z.2⟩)
      | _ => .stuck
    else .stuck
  | _, _ => .stuck
section
variable {K : KW} {E : XK}
theorem tyNot_of {C : Addr} {Ds : List Addr} {H : Hp} {W : Wd} {d : D} {v : V} (s : Sub W.g H) (hI : IsO K C) (hD : ∀ D ∈ Ds, IsX K C D) (hty : ∀ t ∈ ["NoneType", "bool", "int", "str", "tuple", "list", "dict"], PySem.W.subIn K (.type t) (.ref C) = some false)
    (h : okR C Ds d = true) (r : RepT K H W d v) : TyNot K C H v := by
  by_cases hi : ∃ A fs, d = .ins A fs
  · obtain ⟨A, fs, rfl⟩ := hi
    obtain ⟨a, dx, us, rfl, ha, la⟩ := r
    rcases of_decide_eq_true h with rfl | hA
    · exact ⟨_, .base (TyOf.ins ha hI.ins.cl hI.ins.ha hI.ins.hn hI.ins.htk hI.ins.hm), by unfold PySem.W.notFirst; simp⟩
    · have J := hD A hA
      exact ⟨_, .base (TyOf.ins ha J.ins.cl J.ins.ha J.ins.hn J.ins.htk J.ins.hm), by unfold PySem.W.notFirst; rw [J.sb]; simp⟩
  · have h' : ∃ t, tyName d = some t := by cases d <;> first | exact absurd ⟨_, _, rfl⟩ hi | exact Option.isSome_iff_exists.mp h
    obtain ⟨t, ht⟩ := h'
    exact ⟨_, tyName_ok s ht r, by unfold PySem.W.notFirst; rw [hty t (tyName_mem ht)]; simp⟩
theorem snd_ownX {C : Addr} {Ds : List Addr} {ng : Bool} {mf : Fn} {ta tb : TE} {ma mb : RE → Out (D × RE)} (hI : IsO K C) (hD : ∀ D ∈ Ds, IsX K C D) (hty : ∀ t ∈ ["NoneType", "bool", "int", "str", "tuple", "list", "dict"], PySem.W.subIn K (.type t) (.ref C) = some false)
    (nx : NoXF mf) (ha : Snd K E ta ma) (hb : Snd K E tb mb) : Snd K E (tOp (rOwnX K C ng (spN K 2 mf) E0) ta tb) (mEqX C Ds ng mf ma mb) := fun c σ H W r Q R w => by
  refine ha c σ H W r _ R ((Wp.bnd w).mono (fun p q v1 H1 W1 R1 s1 h1 => ?_) fun _ _ x => x)
  refine hb c σ H1 W1 p.2 _ R1 ((Wp.bnd q).mono (fun p2 q2 v2 H2 W2 R2 s2 h2 => ?_) fun _ _ x => x)
  have h1' := h1.mono s2
  split at q2
  · rename_i A fsA e e1 e2
    split at q2
    · rename_i hc
      obtain ⟨rfl, hk⟩ := hc
      obtain ⟨a, dx, us, rfl, hA, la⟩ := h1'.at R2 e1
      have ty := tyNot_of R2.gh hI hD hty hk (h2.at R2 e2)
      have rl : RepL K W2 [p.1, p2.1] [.ref a, v2] := by
        simp only [RepL]
        exact ⟨_, _, rfl, h1', _, _, rfl, h2, rfl⟩
      refine ⟨a, dx, us, rfl, hA, ty, rfl, [p.1, p2.1], p2.2.st, W2, R2.entry, rl, ?_⟩
      cases e : mf [p.1, p2.1] p2.2.st with
      | ok d =>
        simp only [e, bnd_ok] at q2
        intro v H' W' a' hv
        obtain ⟨d1, st1⟩ := d
        cases d1 <;> simp only at q2 <;> try exact q2.elim
        rename_i k
        exact ⟨k, by simpa only [RepD] using hv, q2 _ H' W' (RR.call R2 a') ((s1.trans s2).trans a'.g0) repD_bl⟩
      | exc x st => exact absurd e (nx _ _ _ _)
      | stuck => simp only [e] at q2; exact q2.elim
    · exact q2.elim
  · exact q2.elim
end
/-- the class's own == is asked -/
structure EqC (K : PySem.W.Frag) (C : Addr) (Ds : List Addr) : Prop where
  I : IsO K C
  D : ∀ D ∈ Ds, IsX K C D
  ty : ∀ t ∈ ["NoneType", "bool", "int", "str", "tuple", "list", "dict"], PySem.W.subIn K (.type t) (.ref C) = some false
  ne : PySem.W.findIn K (.ref C) "__ne__" = some (some (.builtin "object.__ne__"))
section
variable {X : Cx} {E : XK} {a b e : PySem.Expr} {pos p q : Pos} {C : Addr} {x : Str} {Ds : List Addr} {ma mb m : RE → Out (D × RE)}
theorem em_eqX {k j : Nat} {mf : Fn} (T : EqC X.K C Ds) (F : EqO X.prog X.w X.K X.mg X.base k C mf) (hr : Room j X.A) (ha : EM X E a ma) (hb : EM X E b mb) (hj : k ≤ j := by decide) (hm : behindInMarks .Eq b = false := by first | exact nomark _ | rfl) : EM X E (.Compare a [.Eq] [b] pos) (mEqX C Ds false mf ma mb) := by
  obtain ⟨_, a1, a2⟩ := ha
  obtain ⟨_, b1, b2⟩ := hb
  obtain ⟨g, h1, h2, h3⟩ := F.ex
  obtain ⟨fd, ps, F1, F2⟩ := h3.ex
  exact ⟨_, pe_cmpR (op_ownX (E := E0) F1 h1 h2 F2 (hr.mono hj)) a1 b1 hm, snd_ownX T.I T.D T.ty h3.nx a2 b2⟩
/-- isinstance(x, C), x perhaps of another own class -/
@[simp] def mIsOX (C : Addr) (Ds : List Addr) (m : RE → Out (D × RE)) : RE → Out (D × RE) := fun r => (m r).bnd fun p => match dr p.2.st p.1 with
  | some (.ins A _) => if A = C then .ok (.bl true, p.2) else if A ∈ Ds then .ok (.bl false, p.2) else .stuck
  | some d => match tyName d with
    | some _ => .ok (.bl false, p.2)
    | none => .stuck
  | none => .stuck
theorem em_isOX (hm : X.mg "isinstance" = none) (hc : X.mg x = some (.ref C)) (I : IsO X.K C) (hD : ∀ D ∈ Ds, IsX X.K C D) (h : EM X E a m) (hg : Gl X "isinstance" := by rfl) (hgx : Gl X x := by rfl) (hdb : (x == ("__debug__" : Str)) = false := by decide)
    (hs2 : starEach [.Name x q] X.env = (false, eval (.Name x q) X.env) :: starEach [] X.env := by rfl) (hs : starEach [a, .Name x q] X.env = (false, eval a X.env) :: starEach [.Name x q] X.env := by rfl) (hpl : (backTo pos (starEach [.Name x q] X.env)).any (·.1) = false := by rfl) :
    EM X E (.Call (.Name "isinstance" p) [a, .Name x q] [] pos) (mIsOX C Ds m) := by
  obtain ⟨te, h1, h2⟩ := h
  refine ⟨_, pe_callB call_isi hg hm (by decide +kernel) (pa_cons h1 (pa_cons (pe_glob (v := .ref C) hgx hc rfl hdb) pa_nil hs2) hs) (by decide) (by decide) hs hpl, fun c σ H W r Q R w => ?_⟩
  refine h2 c σ H W r _ R ((Wp.bnd w).mono (fun p q v1 H1 W1 R1 s1 h1 => ?_) fun _ _ x => x)
  show rIsi X.K [v1, .ref C] H1 Q
  cases e : dr p.2.st p.1 with
  | none => simp only [e] at q; exact q.elim
  | some d =>
    simp only [e] at q
    have rep := h1.at R1 e
    by_cases hi : ∃ A fs, d = .ins A fs
    · obtain ⟨A, fs, rfl⟩ := hi
      simp only at q
      obtain ⟨a, dx, us, rfl, ha, la⟩ := rep
      split at q
      · rename_i hA
        subst hA
        exact ⟨_, _, _, _, true, rfl, .own A, .base (TyOf.ins ha I.ins.cl I.ins.ha I.ins.hn I.ins.htk I.ins.hm), I.ins.me, q _ H1 W1 R1 s1 repD_bl⟩
      · split at q
        · rename_i hA
          have J := hD A hA
          exact ⟨_, _, _, _, false, rfl, .own C, .base (TyOf.ins ha J.ins.cl J.ins.ha J.ins.hn J.ins.htk J.ins.hm), J.no, q _ H1 W1 R1 s1 repD_bl⟩
        · exact q.elim
    · cases ht : tyName d with
      | none => cases d <;> first | (simp only [ht] at q; exact q.elim) | exact absurd ⟨_, _, rfl⟩ hi
      | some t =>
        refine ⟨_, _, _, _, false, rfl, .own C, tyName_ok R1.gh ht rep, I.no t (tyName_mem ht), ?_⟩
        cases d <;> first | (simp only [ht] at q; exact q _ H1 W1 R1 s1 repD_bl) | exact absurd ⟨_, _, rfl⟩ hi
end
end Mir
set_option maxHeartbeats 400000
namespace Mir
open PySem PySem.Spec PyProof.Rows L2
/-! ## a[i], b[j] = x, y -/
@[simp] def put1 (mo mk : RE → Out (D × RE)) (x : D) : RE → Out RE := fun r => (mo r).bnd fun o => (mk o.2).bnd fun k => match o.1 with
  | .cell i => match k.2.st[i]? with
    | some d => (putA d k.1 x).bnd fun d' => .ok ⟨k.2.s, k.2.st.set i d'⟩
    | none => .stuck
  | _ => .stuck
@[simp] def mPut2 (mo mk mo2 mk2 mv : RE → Out (D × RE)) : RE → Out Fl := fun r => (mv r).bnd fun v => match v.1 with
  | .tup [x, y] => (put1 mo mk x v.2).bnd fun r1 => (put1 mo2 mk2 y r1).bnd fun r2 => .ok (.nx r2)
  | _ => .stuck
end Mir
set_option maxHeartbeats 400000
namespace Mir
open PySem PySem.Spec PyProof.Rows L2
/-! ## a + b, two lists: a fresh one -/
@[simp] def dAddL : D → D → Out D
  | .lst a, .lst b => if a.length + b.length ≤ 1000000 then .ok (.lst (a ++ b)) else .stuck
  | _, _ => .stuck
section
variable {K : KW} {E : XK}
theorem sndf_addL {ta tb : TE} {ma mb : RE → Out (D × RE)} (ha : Snd K E ta ma) (hb : Snd K E tb mb) : SndF K E (tOp rCat ta tb) (mOp2 dAddL ma mb) := fun c σ H W r Q R w => by
  refine ha c σ H W r _ R ((Wp.bnd w).mono (fun p q v1 H1 W1 R1 s1 h1 => ?_) fun _ _ x => x)
  refine hb c σ H1 W1 p.2 _ R1 ((Wp.bnd q).mono (fun p2 q2 v2 H2 W2 R2 s2 h2 => ?_) fun _ _ x => x)
  have h1' := h1.mono s2
  split at q2
  · rename_i dx dy e1 e2
    have hx := h1'.at R2 e1
    have hy := h2.at R2 e2
    cases dx <;> cases dy <;> simp only [dAddL, bnd_stuck] at q2 <;> try exact q2.elim
    split at q2
    · rename_i hz
      obtain ⟨a, vs, rfl, h3, la⟩ := hx
      obtain ⟨b, us, rfl, h4, lb⟩ := hy
      refine ⟨a, b, vs, us, rfl, rfl, h3, h4, ?_, fun p hp => ?_⟩
      · rw [← repL_len la, ← repL_len lb]; exact lim_le hz
      · obtain ⟨R4, f4⟩ := R2.fresh (o := .lst (vs ++ us)) (d := .lst _) hp ⟨p, _, rfl, upd_same, repL_app la lb⟩
        exact q2 p _ W2 R4 (s1.trans s2) f4
    · exact q2.elim
  · exact q2.elim
end
theorem fm_addL {X : Cx} {E : XK} {a b : PySem.Expr} {ma mb : RE → Out (D × RE)} {pos : Pos} (ha : EM X E a ma) (hb : EM X E b mb) : FM X E (.BinOp a .Add b pos) (mOp2 dAddL ma mb) := let ⟨_, a1, a2⟩ := ha; let ⟨_, b1, b2⟩ := hb; ⟨_, pe_op op_cat a1 b1, sndf_addL a2 b2⟩
end Mir
set_option maxHeartbeats 400000
namespace Mir
open PySem PySem.Spec PyProof.Rows L2
/-! ## == and != of things that may hold one and the same thing -/
/-- the same thing, or data of one form (positive alone) -/
def sameG : Nat → D → D → Bool
  | 0, _, _ => false
  | _ + 1, .cell a, .cell b => decide (a = b)
  | _ + 1, .non, .non => true
  | _ + 1, .bl a, .bl b => a == b
  | _ + 1, .int a, .int b => a == b
  | _ + 1, .str a, .str b => a == b
  | n + 1, .lst a, .lst b => decide (a.length = b.length) && (a.zip b).all fun p => sameG n p.1 p.2
  | n + 1, .tup a, .tup b => decide (a.length = b.length) && (a.zip b).all fun p => sameG n p.1 p.2
  | _ + 1, _, _ => false
/-- two scalars of one kind -/
def scB : D → D → Option Bool
  | .non, .non => some true
  | .bl a, .bl b => some (a == b)
  | .int a, .int b => some (a == b)
  | .str a, .str b => some (a == b)
  | _, _ => none
def itB (x y : D) : Option Bool := if sameG 40 x y = true then some true else scB x y
def allB : List D → List D → Option Bool
  | [], [] => some true
  | a :: as, b :: bs => match itB a b, allB as bs with
    | some x, some y => some (x && y)
    | _, _ => none
  | _, _ => none
def dicB (ls : List (Key × D)) : List (Key × D) → Option Bool
  | [] => some true
  | (k, d) :: r => match (match valD ls k with
      | none => some false
      | some y => scB d y), dicB ls r with
    | some x, some y => some (x && y)
    | _, _ => none
def topB : D → D → Option Bool
  | .lst a, .lst b => if a.length = b.length then allB a b else some false
  | .tup a, .tup b => if a.length = b.length then allB a b else none
  | .dic a, .dic b => if a.length = b.length then dicB b a else some false
  | x, y => scB x y
/-- one and the same list -/
def selfL (st : Sto) : D → D → Bool
  | .cell a, .cell b => decide (a = b) && (match st[a]? with
    | some (.lst _) => true
    | _ => false)
  | _, _ => false
def eqTop (st : Sto) (x y : D) : Option Bool := if selfL st x y = true then some true else match dr st x, dr st y with
  | some dx, some dy => topB dx dy
  | _, _ => none
@[simp] def mEqG (ng : Bool) (ma mb : RE → Out (D × RE)) : RE → Out (D × RE) := fun r => (ma r).bnd fun x => (mb x.2).bnd fun y => match eqTop y.2.st x.1 y.1 with
  | some b => .ok (.bl (if ng = true then !b else b), y.2)
  | none => .stuck
/-! values -/
def SameV (K : PySem.W.Frag) (H : Hp) : Nat → V → V → Prop
  | 0 => fun _ _ => False
  | n + 1 => fun x y => (x = y ∧ flatB x = true) ∨ (∃ a, x = .ref a ∧ y = .ref a) ∨ (∃ a b xs ys, x = .ref a ∧ y = .ref b ∧ SqL K H a xs ∧ SqL K H b ys ∧ Paired (SameV K H n) xs ys) ∨
    ∃ a b xs ys, x = .ref a ∧ y = .ref b ∧ SqT K H a xs ∧ SqT K H b ys ∧ Paired (SameV K H n) xs ys
def ScV (x y : V) (b : Bool) : Prop := (x = .non ∧ y = .non ∧ b = true) ∨ (∃ i j, x = .bl i ∧ y = .bl j ∧ b = (i == j)) ∨ (∃ i j, x = .int i ∧ y = .int j ∧ b = (i == j)) ∨ ∃ i j, x = .str i ∧ y = .str j ∧ b = (i == j)
def ItV (K : PySem.W.Frag) (H : Hp) (x y : V) (b : Bool) : Prop := (b = true ∧ SameV K H 40 x y) ∨ ScV x y b
inductive AllV (K : PySem.W.Frag) (H : Hp) : List V → List V → Bool → Prop
  | nil : AllV K H [] [] true
  | cons {x y : V} {xs ys : List V} {b c : Bool} : ItV K H x y b → AllV K H xs ys c → AllV K H (x :: xs) (y :: ys) (b && c)
inductive DicV (ls : List (Key × V)) : List (Key × V) → Bool → Prop
  | nil : DicV ls [] true
  | miss {k : Key} {v : V} {r : List (Key × V)} {c : Bool} : valV ls k = none → DicV ls r c → DicV ls ((k, v) :: r) false
  | hit {k : Key} {v y : V} {r : List (Key × V)} {b c : Bool} : valV ls k = some y → ScV v y b → DicV ls r c → DicV ls ((k, v) :: r) (b && c)
def TopV (K : PySem.W.Frag) (H : Hp) (x y : V) (b : Bool) : Prop := ScV x y b ∨ (∃ a xs, x = .ref a ∧ y = .ref a ∧ SqL K H a xs ∧ b = true) ∨
  (∃ a c xs ys, x = .ref a ∧ y = .ref c ∧ SqL K H a xs ∧ SqL K H c ys ∧ ((xs.length ≠ ys.length ∧ b = false) ∨ AllV K H xs ys b)) ∨
  (∃ a c xs ys, x = .ref a ∧ y = .ref c ∧ SqT K H a xs ∧ SqT K H c ys ∧ ((xs.length ≠ ys.length ∧ b = false ∧ False) ∨ AllV K H xs ys b)) ∨
  ∃ a c ks ls, x = .ref a ∧ y = .ref c ∧ Rd H a (.dK ks) ∧ Rd H c (.dK ls) ∧ ((ks.length ≠ ls.length ∧ b = false) ∨ (ks.length = ls.length ∧ DicV ls ks b))
def rEqG (K : PySem.W.Frag) (ng : Bool) : R2 := fun x y H Q => ∃ b, TopV K H x y b ∧ Q (.bl (if ng = true then !b else b)) H
section
variable {X : Cx} {pins : List (Addr × Obj)} {σ : L2.St} {H : Hp} {s : Shared}
theorem scV_at {x y : V} {b : Bool} {v u : Value} (h : ScV x y b) (rx : RelV x v) (ry : RelV y u) (A : Around) : SeqAt.EqAt A s v u b := by
  rcases h with ⟨rfl, rfl, rfl⟩ | ⟨i, j, rfl, rfl, rfl⟩ | ⟨i, j, rfl, rfl, rfl⟩ | ⟨i, j, rfl, rfl, rfl⟩
  · cases (show v = Value.none from rx); cases (show u = Value.none from ry); exact .same _
  · cases (show v = Value.bool i from rx); cases (show u = Value.bool j from ry); exact .bool_bool i j
  · obtain ⟨t, rfl⟩ := (show ∃ t, v = Value.int i t from rx); obtain ⟨t2, rfl⟩ := (show ∃ t, u = Value.int j t from ry); exact .int_int i t j t2
  · obtain ⟨t, rfl⟩ := (show ∃ t, v = Value.str i t from rx); obtain ⟨t2, rfl⟩ := (show ∃ t, u = Value.str j t from ry); exact .str_str i t j t2
theorem scV_ne {x y : V} {b : Bool} {v u : Value} (h : ScV x y b) (rx : RelV x v) (ry : RelV y u) (A : Around) : SeqAt.RcNeAt A s v u (!b) := by
  rcases h with ⟨rfl, rfl, rfl⟩ | ⟨i, j, rfl, rfl, rfl⟩ | ⟨i, j, rfl, rfl, rfl⟩ | ⟨i, j, rfl, rfl, rfl⟩
  · cases (show v = Value.none from rx); cases (show u = Value.none from ry); exact .none_none
  · cases (show v = Value.bool i from rx); cases (show u = Value.bool j from ry); exact .bool_bool i j
  · obtain ⟨t, rfl⟩ := (show ∃ t, v = Value.int i t from rx); obtain ⟨t2, rfl⟩ := (show ∃ t, u = Value.int j t from ry); exact .int_int i t j t2
  · obtain ⟨t, rfl⟩ := (show ∃ t, v = Value.str i t from rx); obtain ⟨t2, rfl⟩ := (show ∃ t, u = Value.str j t from ry); exact .str_str i t j t2
theorem scV_rc {x y : V} {b : Bool} {v u : Value} (h : ScV x y b) (rx : RelV x v) (ry : RelV y u) (A : Around) : SeqAt.RcAt A s v u b := by
  rcases h with ⟨rfl, rfl, rfl⟩ | ⟨i, j, rfl, rfl, rfl⟩ | ⟨i, j, rfl, rfl, rfl⟩ | ⟨i, j, rfl, rfl, rfl⟩
  · cases (show v = Value.none from rx); cases (show u = Value.none from ry); exact .none_none
  · cases (show v = Value.bool i from rx); cases (show u = Value.bool j from ry); exact .bool_bool i j
  · obtain ⟨t, rfl⟩ := (show ∃ t, v = Value.int i t from rx); obtain ⟨t2, rfl⟩ := (show ∃ t, u = Value.int j t from ry); exact .int_int i t j t2
  · obtain ⟨t, rfl⟩ := (show ∃ t, v = Value.str i t from rx); obtain ⟨t2, rfl⟩ := (show ∃ t, u = Value.str j t from ry); exact .str_str i t j t2
theorem paired_run {F : V → V → Prop} {A : Around} (ih : ∀ x y v u, F x y → RelV x v → RelV y u → SeqAt.EqAt A s v u true) {xs ys : List V} (hp : Paired F xs ys) :
    ∀ {us ws : List Value}, Vals xs us → Vals ys ws → ∀ j (h1 : j < us.length) (h2 : j < ws.length), SeqAt.EqAt A s us[j] ws[j] true := by
  induction hp with
  | nil =>
    intro us ws r1 r2 j h1 h2
    cases r1
    exact absurd h1 (Nat.not_lt_zero j)
  | cons h _ k =>
    intro us ws r1 r2 j h1 h2
    cases r1 with
    | cons a1 b1 =>
      cases r2 with
      | cons a2 b2 =>
        cases j with
        | zero => exact ih _ _ _ _ h a1 a2
        | succ j => exact k b1 b2 j (Nat.lt_of_succ_lt_succ h1) (Nat.lt_of_succ_lt_succ h2)
theorem all_true (n : Nat) : ((List.range n).all fun _ => true) = true := List.all_eq_true.mpr fun _ _ => rfl
theorem same_run (I : Inv X pins σ H s) : ∀ (n : Nat) (A : Around), A.units + n < cLine → ∀ (x y : V) (v u : Value), SameV X.K H n x y → RelV x v → RelV y u → SeqAt.EqAt A s v u true
  | 0, _, _, _, _, _, _, h, _, _ => (show False from h).elim
  | n + 1, A, hu, x, y, v, u, h, rx, ry => by
    rcases h with ⟨rfl, f⟩ | ⟨a, rfl, rfl⟩ | ⟨a, b, xs, ys, rfl, rfl, ha, hb, hp⟩ | ⟨a, b, xs, ys, rfl, rfl, ha, hb, hp⟩
    · exact eqAt_same rx ry f
    · cases (show v = Value.ref a from rx)
      cases (show u = Value.ref a from ry)
      exact .same _
    · cases (show v = Value.ref a from rx)
      cases (show u = Value.ref b from ry)
      by_cases e : a = b
      · subst e; exact .same _
      obtain ⟨us, r1, p1, _⟩ := I.list ha
      obtain ⟨ws, r2, p2, _⟩ := I.list hb
      have hsz : us.toArray.size = ws.toArray.size := by
        rw [List.size_toArray, List.size_toArray, ← r1.length, ← r2.length]
        exact Paired.length hp
      have := SeqAt.RcAt.lists (A := A) (e := fun _ => true) p1.isList p2.isList hsz (by omega) fun j h1 h2 => by
        have k := paired_run (A := A.in1) (same_run I n A.in1 (by show A.units + 1 + n < cLine; omega)) hp r1 r2 j (by simpa using h1) (by simpa using h2)
        simpa using k
      rw [all_true] at this
      exact .of_refs e this
    · cases (show v = Value.ref a from rx)
      cases (show u = Value.ref b from ry)
      by_cases e : a = b
      · subst e; exact .same _
      obtain ⟨us, r1, p1, _⟩ := I.tuple ha
      obtain ⟨ws, r2, p2, _⟩ := I.tuple hb
      have hsz : us.toArray.size = ws.toArray.size := by
        rw [List.size_toArray, List.size_toArray, ← r1.length, ← r2.length]
        exact Paired.length hp
      have := SeqAt.RcAt.tuples (A := A) (e := fun _ => true) p1 p2 (by omega) fun j h1 h2 => by
        have k := paired_run (A := A.in1) (same_run I n A.in1 (by show A.units + 1 + n < cLine; omega)) hp r1 r2 j (by simpa using h1) (by simpa using h2)
        simpa using k
      rw [all_true, hsz] at this
      exact .of_refs e (by simpa using this)
/-- items, one by one -/
theorem allV_run (I : Inv X pins σ H s) {A : Around} (hu : A.units + 40 < cLine) {xs ys : List V} {b : Bool} (h : AllV X.K H xs ys b) : ∀ {us ws : List Value}, Vals xs us → Vals ys ws →
    ∃ e : Nat → Bool, us.length = ws.length ∧ (∀ j (h1 : j < us.length) (h2 : j < ws.length), SeqAt.EqAt A s us[j] ws[j] (e j)) ∧ (List.range us.length).all e = b := by
  induction h with
  | nil =>
    intro us ws r1 r2
    cases r1; cases r2
    exact ⟨fun _ => true, rfl, fun j h1 => absurd h1 (Nat.not_lt_zero j), rfl⟩
  | @cons x y xs ys b c h _ ih =>
    intro us ws r1 r2
    cases r1 with
    | cons a1 b1 =>
      cases r2 with
      | cons a2 b2 =>
        obtain ⟨e, hl, he, ha⟩ := ih b1 b2
        refine ⟨fun j => match j with | 0 => b | j + 1 => e j, by simp [hl], fun j h1 h2 => ?_, ?_⟩
        · cases j with
          | zero =>
            rcases h with ⟨rfl, h⟩ | h
            · exact same_run I 40 A hu _ _ _ _ h a1 a2
            · exact scV_at h a1 a2 A
          | succ j => exact he j (Nat.lt_of_succ_lt_succ h1) (Nat.lt_of_succ_lt_succ h2)
        · rw [List.length_cons, List.range_succ_eq_map, List.all_cons, List.all_map]
          exact congrArg (b && ·) ha
theorem dicV_run {A : Around} {ls : List (Key × V)} {vb : List (Key × Value)} (rb : KV ls vb) {ks : List (Key × V)} {b : Bool} (h : DicV ls ks b) : ∀ {va : List (Key × Value)}, KV ks va → ∃ b', PySem.W.KeqHits A s vb va b' ∧ b' = b := by
  induction h with
  | nil => intro va ra; unfold KV at ra; cases ra; exact ⟨true, .nil, rfl⟩
  | @miss k v r c hn _ ih =>
    intro va ra
    unfold KV at ra
    cases ra with
    | @cons _ q _ qs h t =>
      obtain ⟨h1, h2⟩ := h
      obtain ⟨key, w⟩ := q
      have h1' : k = key := h1
      subst h1'
      have rr : RelO none (valueAt vb k) := by rw [← hn]; exact rb.val k
      refine ⟨false, .miss ?_, rfl⟩
      cases e : valueAt vb k with
      | none => rfl
      | some z => rw [e] at rr; exact rr.elim
  | @hit k v y r b c hv hs _ ih =>
    intro va ra
    unfold KV at ra
    cases ra with
    | @cons _ q _ qs h t =>
      obtain ⟨h1, h2⟩ := h
      obtain ⟨key, w⟩ := q
      have h1' : k = key := h1
      subst h1'
      have rr : RelO (some y) (valueAt vb k) := by rw [← hv]; exact rb.val k
      obtain ⟨z, hz, rz⟩ := rr.some_of
      obtain ⟨b', hb', rfl⟩ := ih t
      exact ⟨b && b', .hit hz (scV_at hs h2 rz A) hb', rfl⟩
end
section
variable {X : Cx}
theorem op_eqG (hu : X.A.units + 64 < cLine) (ng : Bool) : OpR X (compareOp (if ng = true then .NotEq else .Eq)) (rEqG X.K ng) := by
  intro pins s σ H x y v u Q I rx ry h
  obtain ⟨b, h, q⟩ := h
  have fin : EP X pins σ Q (.bool (if ng = true then !b else b)) s := ⟨V.bl (if ng = true then !b else b), H, I, rfl, q⟩
  have both : SeqAt.RcAt X.A s v u b → SeqAt.RcNeAt X.A s v u (!b) → wpAny (model X.prog X.w) X.A (compareOp (if ng = true then .NotEq else .Eq) v u) (EP X pins σ Q) X.xe s := fun h1 h2 => by
    cases ng with
    | false => exact h1 X.prog X.w _ _ fin
    | true => exact h2 X.prog X.w _ _ fin
  rcases h with h | ⟨a, xs, rfl, rfl, ha, rfl⟩ | ⟨a, c, xs, ys, rfl, rfl, ha, hc, h⟩ | ⟨a, c, xs, ys, rfl, rfl, ha, hc, h⟩ | ⟨a, c, ks, ls, rfl, rfl, ha, hc, h⟩
  · exact both (scV_rc h rx ry _) (scV_ne h rx ry _)
  · cases (show v = Value.ref a from rx)
    cases (show u = Value.ref a from ry)
    obtain ⟨us, r1, p1, _⟩ := I.list ha
    have g1 := SeqAt.RcAt.lists (A := X.A) (e := fun _ => true) p1.isList p1.isList rfl (by omega) fun j h1 h2 => SeqAt.EqAt.same _
    have g2 := SeqAt.RcNeAt.lists (A := X.A) (e := fun _ => true) p1.isList p1.isList rfl (by omega) fun j h1 h2 => SeqAt.EqAt.same _
    rw [all_true] at g1 g2
    exact both g1 g2
  · cases (show v = Value.ref a from rx)
    cases (show u = Value.ref c from ry)
    obtain ⟨us, r1, p1, _⟩ := I.list ha
    obtain ⟨ws, r2, p2, _⟩ := I.list hc
    rcases h with ⟨hl, rfl⟩ | h
    · have hsz : (us.toArray.size != ws.toArray.size) = true := by
        rw [List.size_toArray, List.size_toArray, ← r1.length, ← r2.length]
        simpa using hl
      exact both (.lists_lengths p1.isList p2.isList hsz (by omega)) (.lists_lengths p1.isList p2.isList hsz (by omega))
    · obtain ⟨e, hl, he, hb⟩ := allV_run I (A := X.A.in1) (by show X.A.units + 1 + 40 < cLine; omega) h r1 r2
      have he' : ∀ j (h1 : j < us.toArray.size) (h2 : j < ws.toArray.size), SeqAt.EqAt X.A.in1 s us.toArray[j] ws.toArray[j] (e j) := fun j h1 h2 => by
        have := he j (by simpa using h1) (by simpa using h2)
        simpa using this
      have g1 := SeqAt.RcAt.lists (A := X.A) p1.isList p2.isList (by simpa using hl) (by omega) he'
      have g2 := SeqAt.RcNeAt.lists (A := X.A) p1.isList p2.isList (by simpa using hl) (by omega) he'
      rw [List.size_toArray, hb] at g1 g2
      exact both g1 g2
  · cases (show v = Value.ref a from rx)
    cases (show u = Value.ref c from ry)
    obtain ⟨us, r1, p1, _⟩ := I.tuple ha
    obtain ⟨ws, r2, p2, _⟩ := I.tuple hc
    rcases h with ⟨_, _, z⟩ | h
    · exact z.elim
    · obtain ⟨e, hl, he, hb⟩ := allV_run I (A := X.A.in1) (by show X.A.units + 1 + 40 < cLine; omega) h r1 r2
      have he' : ∀ j (h1 : j < us.toArray.size) (h2 : j < ws.toArray.size), SeqAt.EqAt X.A.in1 s us.toArray[j] ws.toArray[j] (e j) := fun j h1 h2 => by
        have := he j (by simpa using h1) (by simpa using h2)
        simpa using this
      have g1 := SeqAt.RcAt.tuples (A := X.A) p1 p2 (by omega) he'
      have g2 := SeqAt.RcNeAt.tuples (A := X.A) p1 p2 (by omega) he'
      have hm : ((List.range (min us.toArray.size ws.toArray.size)).all e && us.toArray.size == ws.toArray.size) = b := by
        rw [List.size_toArray, List.size_toArray, ← hl, Nat.min_self, hb]; simp
      rw [hm] at g1 g2
      exact both g1 g2
  · cases (show v = Value.ref a from rx)
    cases (show u = Value.ref c from ry)
    obtain ⟨_, ya, va, ra, da⟩ := dk_rd I.hok ha
    obtain ⟨_, yb, vb, rb, db⟩ := dk_rd I.hok hc
    have el : ks.length = va.length := ra.length
    have er : ls.length = vb.length := rb.length
    rcases h with ⟨hl, rfl⟩ | ⟨hl, h⟩
    · have hz : (va.length == vb.length) = false := by rw [← el, ← er]; simpa using hl
      have none : va.length = vb.length → PySem.W.KeqHits X.A.in1 s vb va true := fun e => absurd e (by rw [← el, ← er]; exact hl)
      cases ng with
      | false => exact PySem.W.keq_eq (knd := mixKind X.prog X.w) ya yb da db (by omega) none (by rw [hz]; exact fin)
      | true => exact PySem.W.keq_ne (knd := mixKind X.prog X.w) ya yb da db (by omega) none (by rw [hz]; exact fin)
    · obtain ⟨b', hits, rfl⟩ := dicV_run (A := X.A.in1) (s := s) rb h ra
      have hz : (va.length == vb.length) = true := by rw [← el, ← er]; simpa using hl
      cases ng with
      | false => exact PySem.W.keq_eq (knd := mixKind X.prog X.w) ya yb da db (by omega) (fun _ => hits) (by rw [hz]; exact fin)
      | true => exact PySem.W.keq_ne (knd := mixKind X.prog X.w) ya yb da db (by omega) (fun _ => hits) (by rw [hz]; exact fin)
end
end Mir
set_option maxHeartbeats 400000
namespace Mir
open PySem PySem.Spec PyProof.Rows L2
section
variable {K : KW} {E : XK} {H : Hp} {W : Wd}
theorem zip_same {n : Nat} (s : Sub W.g H) (ih : ∀ {d e : D} {x y : V}, sameG n d e = true → RepD K W d x → RepD K W e y → SameV K H n x y) : ∀ {as bs : List D} {xs ys : List V}, as.length = bs.length → ((as.zip bs).all fun p => sameG n p.1 p.2) = true → RepL K W as xs → RepL K W bs ys → Paired (SameV K H n) xs ys
  | [], [], xs, ys, _, _, h1, h2 => by
    simp only [RepL] at h1 h2
    subst h1; subst h2
    exact .nil
  | [], b :: bs, _, _, h, _, _, _ => by simp at h
  | a :: as, [], _, _, h, _, _, _ => by simp at h
  | a :: as, b :: bs, xs, ys, hl, h, h1, h2 => by
    simp only [RepL] at h1 h2
    obtain ⟨v, us, rfl, hv, t1⟩ := h1
    obtain ⟨w, ws, rfl, hw, t2⟩ := h2
    simp only [List.zip_cons_cons, List.all_cons, Bool.and_eq_true] at h
    exact .cons (ih h.1 hv hw) (zip_same s ih (by simpa using hl) h.2 t1 t2)
theorem sameG_rep (s : Sub W.g H) : ∀ {n : Nat} {d e : D} {x y : V}, sameG n d e = true → RepD K W d x → RepD K W e y → SameV K H n x y
  | 0, _, _, _, _, h, _, _ => by simp [sameG] at h
  | n + 1, d, e, x, y, h, h1, h2 => by
    cases d <;> cases e <;> simp only [sameG, Bool.false_eq_true, Bool.and_eq_true, decide_eq_true_eq, beq_iff_eq] at h <;> simp only [RepD] at h1 h2
    · subst h1; subst h2; exact .inl ⟨rfl, rfl⟩
    · subst h; subst h1; subst h2; exact .inl ⟨rfl, rfl⟩
    · subst h; subst h1; subst h2; exact .inl ⟨rfl, rfl⟩
    · subst h; subst h1; subst h2; exact .inl ⟨rfl, rfl⟩
    · subst h
      obtain ⟨a, ea, rfl⟩ := h1
      obtain ⟨b, eb, rfl⟩ := h2
      rw [ea] at eb; cases eb
      exact .inr (.inl ⟨_, rfl, rfl⟩)
    · obtain ⟨a, us, rfl, ha, la⟩ := h1
      obtain ⟨b, ws, rfl, hb, lb⟩ := h2
      exact .inr (.inr (.inr ⟨a, b, us, ws, rfl, rfl, SqT.of (s.tup ha), SqT.of (s.tup hb), zip_same s (fun h h1 h2 => sameG_rep s h h1 h2) h.1 h.2 la lb⟩))
    · obtain ⟨a, us, rfl, ha, la⟩ := h1
      obtain ⟨b, ws, rfl, hb, lb⟩ := h2
      exact .inr (.inr (.inl ⟨a, b, us, ws, rfl, rfl, SqL.of (s.lst ha), SqL.of (s.lst hb), zip_same s (fun h h1 h2 => sameG_rep s h h1 h2) h.1 h.2 la lb⟩))
theorem scB_rep {d e : D} {x y : V} {b : Bool} (h : scB d e = some b) (h1 : RepD K W d x) (h2 : RepD K W e y) : ScV x y b := by
  cases d <;> cases e <;> simp only [scB, reduceCtorEq, Option.some.injEq] at h <;> simp only [RepD] at h1 h2 <;> subst h1 <;> subst h2 <;> subst h
  · exact .inl ⟨rfl, rfl, rfl⟩
  · exact .inr (.inl ⟨_, _, rfl, rfl, rfl⟩)
  · exact .inr (.inr (.inl ⟨_, _, rfl, rfl, rfl⟩))
  · exact .inr (.inr (.inr ⟨_, _, rfl, rfl, rfl⟩))
theorem itB_rep (s : Sub W.g H) {d e : D} {x y : V} {b : Bool} (h : itB d e = some b) (h1 : RepD K W d x) (h2 : RepD K W e y) : ItV K H x y b := by
  unfold itB at h
  split at h
  · rename_i z
    cases h
    exact .inl ⟨rfl, sameG_rep s z h1 h2⟩
  · exact .inr (scB_rep h h1 h2)
theorem allB_rep (s : Sub W.g H) : ∀ {ds es : List D} {xs ys : List V} {b : Bool}, allB ds es = some b → RepL K W ds xs → RepL K W es ys → AllV K H xs ys b
  | [], [], xs, ys, b, h, h1, h2 => by
    simp only [RepL] at h1 h2
    subst h1; subst h2
    cases h
    exact .nil
  | [], e :: es, _, _, _, h, _, _ => by simp [allB] at h
  | d :: ds, [], _, _, _, h, _, _ => by simp [allB] at h
  | d :: ds, e :: es, xs, ys, b, h, h1, h2 => by
    simp only [RepL] at h1 h2
    obtain ⟨v, us, rfl, hv, t1⟩ := h1
    obtain ⟨w, ws, rfl, hw, t2⟩ := h2
    unfold allB at h
    cases q1 : itB d e with
    | none => simp [q1] at h
    | some x =>
      cases q2 : allB ds es with
      | none => simp [q1, q2] at h
      | some y =>
        simp only [q1, q2, Option.some.injEq] at h
        subst h
        exact .cons (itB_rep s q1 hv hw) (allB_rep s q2 t1 t2)
theorem dicB_rep {ls : List (Key × D)} {ws : List (Key × V)} (hl : RepK K W ls ws) : ∀ {ks : List (Key × D)} {us : List (Key × V)} {b : Bool}, dicB ls ks = some b → RepK K W ks us → DicV ws us b
  | [], us, b, h, h1 => by
    simp only [RepK] at h1
    subst h1
    cases h
    exact .nil
  | (k, d) :: ks, us, b, h, h1 => by
    simp only [RepK] at h1
    obtain ⟨v, us, rfl, hv, t1⟩ := h1
    unfold dicB at h
    rcases repK_val (k := k) hl with ⟨e1, e2⟩ | ⟨d', v', e1, e2, hr⟩
    · rw [e1] at h
      cases q2 : dicB ls ks with
      | none => simp [q2] at h
      | some y =>
        simp only [q2, Option.some.injEq, Bool.false_and] at h
        subst h
        exact .miss e2 (dicB_rep hl q2 t1)
    · rw [e1] at h
      simp only at h
      cases q1 : scB d d' with
      | none => simp [q1] at h
      | some x =>
        cases q2 : dicB ls ks with
        | none => simp [q1, q2] at h
        | some y =>
          simp only [q1, q2, Option.some.injEq] at h
          subst h
          exact .hit e2 (scB_rep q1 hv hr) (dicB_rep hl q2 t1)
theorem topB_rep (s : Sub W.g H) {d e : D} {x y : V} {b : Bool} (h : topB d e = some b) (h1 : RepT K H W d x) (h2 : RepT K H W e y) : TopV K H x y b := by
  cases d <;> cases e <;> simp only [topB, scB, reduceCtorEq, Option.some.injEq] at h
  · cases repT_non h1; cases repT_non h2; subst h; exact .inl (.inl ⟨rfl, rfl, rfl⟩)
  · cases repT_bl h1; cases repT_bl h2; subst h; exact .inl (.inr (.inl ⟨_, _, rfl, rfl, rfl⟩))
  · cases repT_int h1; cases repT_int h2; subst h; exact .inl (.inr (.inr (.inl ⟨_, _, rfl, rfl, rfl⟩)))
  · cases repT_str h1; cases repT_str h2; subst h; exact .inl (.inr (.inr (.inr ⟨_, _, rfl, rfl, rfl⟩)))
  · obtain ⟨a, us, rfl, ha, la⟩ := h1
    obtain ⟨c, ws, rfl, hc, lc⟩ := h2
    refine .inr (.inr (.inr (.inl ⟨a, c, us, ws, rfl, rfl, SqT.of (s.tup ha), SqT.of (s.tup hc), ?_⟩)))
    split at h
    · exact .inr (allB_rep s h la lc)
    · cases h
  · obtain ⟨a, us, rfl, ha, la⟩ := h1
    obtain ⟨c, ws, rfl, hc, lc⟩ := h2
    refine .inr (.inr (.inl ⟨a, c, us, ws, rfl, rfl, SqL.of ha, SqL.of hc, ?_⟩))
    split at h
    · exact .inr (allB_rep s h la lc)
    · rename_i z
      cases h
      exact .inl ⟨by rw [← repL_len la, ← repL_len lc]; exact z, rfl⟩
  · obtain ⟨a, us, rfl, ha, la⟩ := h1
    obtain ⟨c, ws, rfl, hc, lc⟩ := h2
    refine .inr (.inr (.inr (.inr ⟨a, c, us, ws, rfl, rfl, ha, hc, ?_⟩)))
    split at h
    · rename_i z
      exact .inr ⟨by rw [← repK_len la, ← repK_len lc]; exact z, dicB_rep lc h la⟩
    · rename_i z
      cases h
      exact .inl ⟨by rw [← repK_len la, ← repK_len lc]; exact z, rfl⟩
theorem eqTop_rep {c : Fm} {σ : L2.St} {r : RE} {d e : D} {x y : V} {b : Bool} (R : RR K c σ H W r) (h : eqTop r.st d e = some b) (h1 : RepD K W d x) (h2 : RepD K W e y) : TopV K H x y b := by
  unfold eqTop at h
  split at h
  · rename_i z
    cases h
    cases d <;> simp only [selfL, Bool.false_eq_true] at z
    cases e <;> simp only [Bool.false_eq_true, Bool.and_eq_true, decide_eq_true_eq] at z
    obtain ⟨rfl, z⟩ := z
    rename_i i
    simp only [RepD] at h1 h2
    obtain ⟨a, ea, rfl⟩ := h1
    obtain ⟨a', eb, rfl⟩ := h2
    rw [ea] at eb; cases eb
    split at z
    · rename_i ds es
      obtain ⟨b, us, eq, hb, _⟩ := R.ce i _ a es ea
      cases eq
      exact .inr (.inl ⟨a, us, rfl, rfl, SqL.of hb, rfl⟩)
    · cases z
  · split at h
    · rename_i dx dy e1 e2
      exact topB_rep R.gh h (h1.at R e1) (h2.at R e2)
    · cases h
theorem snd_eqG {ng : Bool} {ta tb : TE} {ma mb : RE → Out (D × RE)} (ha : Snd K E ta ma) (hb : Snd K E tb mb) : Snd K E (tOp (rEqG K ng) ta tb) (mEqG ng ma mb) := fun c σ H W r Q R w => by
  refine ha c σ H W r _ R ((Wp.bnd w).mono (fun p q v1 H1 W1 R1 s1 h1 => ?_) fun _ _ x => x)
  refine hb c σ H1 W1 p.2 _ R1 ((Wp.bnd q).mono (fun p2 q2 v2 H2 W2 R2 s2 h2 => ?_) fun _ _ x => x)
  cases e : eqTop p2.2.st p.1 p2.1 with
  | none => simp only [e] at q2; exact q2.elim
  | some b =>
    simp only [e] at q2
    exact ⟨b, eqTop_rep R2 e (h1.mono s2) h2, q2 _ H2 W2 R2 (s1.trans s2) repD_bl⟩
end
section
variable {X : Cx} {E : XK} {a b : PySem.Expr} {pos : Pos} {ma mb : RE → Out (D × RE)}
theorem tm_neG {k : Nat} (hr : Room k X.A) (ha : EM X E a ma) (hb : EM X E b mb) (hm : behindInMarks .NotEq b = false := by first | exact nomark _ | rfl) : TM X E (.Compare a [.NotEq] [b] pos) (mBool (mEqG true ma mb)) :=
  let ⟨_, a1, a2⟩ := ha; let ⟨_, b1, b2⟩ := hb; ⟨_, pt_cmpR (op_eqG hr.units true) a1 b1 hm, snd_test (snd_eqG a2 b2)⟩
end
end Mir
namespace Lm
open PySem L2 Mir
end Lm
set_option maxHeartbeats 400000
namespace PySem.W
open PySem PyProof.Rows
section
variable {prog : Program} {w : World} {A : Around} {E : Value → Shared → Prop} {s : Shared} {K : Frag} {x C L f : Addr} {h₀ : Heap} {m : Str → Option Value} {ox : Obj} {od : Option Obj} {i v tb : Value}
/-- x[i] = v by an own __setitem__ -/
theorem setOwn_K {M : Model} {Q : Unit → Shared → Prop} (X : K.In s.heap) (I : InstAt s.heap x ox C od) (hq : noSeq K C = true) (hs : findIn K (.ref C) "__setitem__" = some (some (.ref f))) (hf : isFn K (.ref f) = true)
    (h : wpAny M A (call (.ref f) [.ref x, i, v]) (fun _ s' => Q () s') E s) : wpAny M A (setItem (.ref x) i v) Q E s := by
  unfold setItem sequenceKey
  refine wpAny_holding (wpAny_bind (wpAny_bind (I.type.here ?_)))
  refine wpAny_bind ((anyM_none X hq).here ?_)
  rw [if_pos (show (!false) = true from rfl)]
  exact wpAny_pure (wpAny_bind (special_fn X I hs (beq_iff_eq.mp hf) (wpAny_mono h (fun _ _ z => wpAny_pure z) fun _ _ z => z)))
end
end PySem.W
namespace Mir
open PySem PySem.Spec PyProof.Rows L2
/-- a special method of an own class -/
structure Spc (P : Program) (w : World) (K : PySem.W.Frag) (mg : Str → Option Value) (base : Heap) (k : Nat) (C : Addr) (m : Str) (n : Nat) (mf : Fn) : Prop where
  ex : ∃ g, PySem.W.findIn K (.ref C) m = some (some (.ref g)) ∧ PySem.W.isFn K (.ref g) = true ∧ PySem.W.fnIn K g = true ∧ FnA P w K mg base k g n mf []
theorem Spc.cut {P : Program} {w : World} {K : PySem.W.Frag} {mg : Str → Option Value} {base : Heap} {k n : Nat} {C : Addr} {m : Str} {mf : Fn} (h : Spc P w K mg base k C m n mf) : Spc P w K mg base k C m n (cutF mf) := let ⟨g, h1, h2, h3, h4⟩ := h.ex; ⟨g, h1, h2, h3, h4.cut⟩
/-- the class is asked itself -/
structure SpK (K : PySem.W.Frag) (C : Addr) : Prop where
  seq : PySem.W.noSeq K C = true
  first : PySem.W.selfFirst K C = true
  I : IsO K C
/-! how a call within ends -/
section
variable {X : Cx} {k : Nat} {f : Addr} {fd : FuncData} {ps : List Str} {sp : Sp} {E : XK} {pins : List (Addr × Obj)} {σ : L2.St} {H : Hp} {s : Shared} {Q : VK} {us : List Value} {vs : List V}
theorem run_in1 (F : FnOk X.prog X.w X.K X.mg X.base CX0 k f fd ps sp) (hr : Room (k + 1) X.A) (hb : Binds X.K fd ps []) (I : Inv X pins σ H s) (r : Vals vs us) (h : sp vs H Q E) : wpAny (model X.prog X.w) X.A.in1 (call (.ref f) us) (EP X pins σ Q) X.xe s := by
  have hl := F.len _ _ _ _ h
  have hl2 : us.length = ps.length := by rw [← r.length]; exact hl
  refine wpAny_call (codeAny_mono (F.run X.A.in1 X.stack s H ⟨us, []⟩ us vs Q E hr.in1 I.env0.in1 (by
    have := hb s us I.kIn (by simpa using hl2)
    simpa using this) r h) fun r s' hq => ?_)
  cases r with
  | error e => exact hq.elim
  | ok fl =>
    cases fl with
    | ret u => exact I.after hq
    | next => exact False.elim hq
    | brk => exact False.elim hq
    | cont => exact False.elim hq
end
def rGetO (C : Addr) (sp : Sp) : R2 := fun x y H Q => ∃ a dx fs, x = .ref a ∧ H a = some (.ins C dx fs) ∧ sp [x, y] H Q E0
def rSetO (C : Addr) (sp : Sp) : TSet := fun x i v H Q => ∃ a dx fs, x = .ref a ∧ H a = some (.ins C dx fs) ∧ sp [x, i, v] H (fun _ H' => Q H') E0
section
variable {X : Cx} {n : Nat} {C f : Addr} {fd : FuncData} {ps : List Str} {sp : Sp}
theorem ix_own (F : FnOk X.prog X.w X.K X.mg X.base CX0 n f fd ps sp) (hs : PySem.W.findIn X.K (.ref C) "__getitem__" = some (some (.ref f))) (hf : PySem.W.isFn X.K (.ref f) = true) (hfn : PySem.W.fnIn X.K f = true) (hb : Binds X.K fd ps []) (hr : Room (n + 1) X.A)
    {a b : PySem.Expr} {pos : Pos} {ta tb : TE} (ha : PE X a ta) (hb2 : PE X b tb) (hsl : ∀ (x : Addr) (i : Value), subscripted b true (.ref x) i = runValue (.builtin "lifetime.subscript" ⟨[.ref x, i], []⟩)) : PE X (.Subscript a b pos) (tOp (rGetO C sp) ta tb) := by
  refine ⟨fun pins s σ H Q I h => ?_⟩
  refine Subscript_ (binT ha hb2 I h fun v u s2 x y H2 I2 rx ry q => ?_)
  obtain ⟨p, dx, fs, rfl, hp, hsp⟩ := q
  obtain rfl : v = Value.ref p := rx
  obtain ⟨mA, J, _⟩ := ins_get I2.hok hp
  obtain ⟨od, J, _⟩ := J.look
  obtain ⟨m, hF⟩ := I2.fr
  exact PySem.W.sub_K hF I2.ok.mod.kin J hs hfn hf (run_in1 (vs := [V.ref p, y]) F hr hb I2 (.cons rfl (.cons ry .nil)) hsp) (hsl _ _)
theorem set_own (F : FnOk X.prog X.w X.K X.mg X.base CX0 n f fd ps sp) (hq : PySem.W.noSeq X.K C = true) (hs : PySem.W.findIn X.K (.ref C) "__setitem__" = some (some (.ref f))) (hf : PySem.W.isFn X.K (.ref f) = true) (hb : Binds X.K fd ps []) (hr : Room n X.A) : PSet X (rSetO C sp) := by
  intro pins s σ H o i v ov iv u Q I ro ri rv h
  obtain ⟨a, dx, fs, rfl, ha, hsp⟩ := h
  obtain rfl : ov = Value.ref a := ro
  obtain ⟨mA, J, _⟩ := ins_get I.hok ha
  obtain ⟨od, J, _⟩ := J.look
  refine PySem.W.setOwn_K I.kIn J hq hs hf ?_
  have r3 : Vals [V.ref a, i, v] [Value.ref a, iv, u] := .cons rfl (.cons ri (.cons rv .nil))
  refine wpAny_mono (run_fn (vs := [V.ref a, i, v]) (dvs := []) (ds := []) F hr hb .nil pass0 I r3 hsp) (fun r s' hq => ?_) fun _ _ z => z
  obtain ⟨_, H', I', _, q⟩ := hq
  exact ⟨H', I', q⟩
end
@[simp] def mGetO (C : Addr) (mf : Fn) (ma mb : RE → Out (D × RE)) : RE → Out (D × RE) := fun r => (ma r).bnd fun p => (mb p.2).bnd fun q => match dr q.2.st p.1 with
  | some (.ins A _) => if A = C then (mf [p.1, q.1] q.2.st).bnd fun z => .ok (z.1, ⟨q.2.s, z.2⟩) else .stuck
  | _ => .stuck
@[simp] def mSetO (C : Addr) (mf : Fn) (mo mk mv : RE → Out (D × RE)) : RE → Out Fl := fun r => (mv r).bnd fun v => (mo v.2).bnd fun o => (mk o.2).bnd fun k => match dr k.2.st o.1 with
  | some (.ins A _) => if A = C then (mf [o.1, k.1, v.1] k.2.st).bnd fun z => .ok (.nx ⟨k.2.s, z.2⟩) else .stuck
  | _ => .stuck
/-- what stands at an address -/
def isRefD : D → Bool
  | .cell _ => true
  | .tup _ => true
  | .lst _ => true
  | .dic _ => true
  | .ins _ _ => true
  | _ => false
@[simp] def mOrO (C : Addr) (mf : Fn) (ma mb : RE → Out (D × RE)) : RE → Out (D × RE) := fun r => (ma r).bnd fun p => (mb p.2).bnd fun q => match dr q.2.st p.1, dr q.2.st q.1 with
  | some (.ins A _), some (.ins B _) => if A = C ∧ B = C then (mf [p.1, q.1] q.2.st).bnd fun z => if isRefD z.1 = true then .ok (z.1, ⟨q.2.s, z.2⟩) else .stuck else .stuck
  | _, _ => .stuck
section
variable {K : KW} {E : XK} {C : Addr} {mf : Fn} {ta tb tv : TE} {ma mb mv : RE → Out (D × RE)}
theorem snd_getO (nx : NoXF mf) (ha : Snd K E ta ma) (hb : Snd K E tb mb) : Snd K E (tOp (rGetO C (spN K 2 mf)) ta tb) (mGetO C mf ma mb) := fun c σ H W r Q R w => by
  refine ha c σ H W r _ R ((Wp.bnd w).mono (fun p q v1 H1 W1 R1 s1 h1 => ?_) fun _ _ x => x)
  refine hb c σ H1 W1 p.2 _ R1 ((Wp.bnd q).mono (fun p2 q2 v2 H2 W2 R2 s2 h2 => ?_) fun _ _ x => x)
  have h1' := h1.mono s2
  split at q2
  · rename_i A fsA e1
    split at q2
    · rename_i hc
      subst hc
      obtain ⟨a, dx, us, rfl, hA, la⟩ := h1'.at R2 e1
      have rl : RepL K W2 [p.1, p2.1] [.ref a, v2] := by
        simp only [RepL]
        exact ⟨_, _, rfl, h1', _, _, rfl, h2, rfl⟩
      refine ⟨a, dx, us, rfl, hA, rfl, [p.1, p2.1], p2.2.st, W2, R2.entry, rl, ?_⟩
      cases e : mf [p.1, p2.1] p2.2.st with
      | ok d =>
        simp only [e, bnd_ok] at q2
        exact fun v H' W' a' hv => q2 v H' W' (RR.call R2 a') ((s1.trans s2).trans a'.g0) hv
      | exc x st => exact absurd e (nx _ _ _ _)
      | stuck => simp only [e] at q2; exact q2.elim
    · exact q2.elim
  · exact q2.elim
theorem snds_setO (nx : NoXF mf) (ho : Snd K E ta ma) (hk : Snd K E tb mb) (hv : Snd K E tv mv) : SndS K E (tAsg tv (gSub ta tb (rSetO C (spN K 3 mf)))) (mSetO C mf ma mb mv) := fun c σ H W r Dd R w => by
  refine hv c σ H W r _ R ((Wp.bnd w).mono (fun p q v H1 W1 R1 s1 h1 => ?_) fun _ _ x => x)
  refine ho c σ H1 W1 p.2 _ R1 ((Wp.bnd q).mono (fun p2 q2 vo H2 W2 R2 s2 h2 => ?_) fun _ _ x => x)
  refine hk c σ H2 W2 p2.2 _ R2 ((Wp.bnd q2).mono (fun p3 q3 kv H3 W3 R3 s3 h3 => ?_) fun _ _ x => x)
  have h1' := h1.mono (s2.trans s3)
  have h2' := h2.mono s3
  split at q3
  · rename_i A fsA e1
    split at q3
    · rename_i hc
      subst hc
      obtain ⟨a, dx, us, rfl, hA, la⟩ := h2'.at R3 e1
      have rl : RepL K W3 [p2.1, p3.1, p.1] [.ref a, kv, v] := by
        simp only [RepL]
        exact ⟨_, _, rfl, h2', _, _, rfl, h3, _, _, rfl, h1', rfl⟩
      refine ⟨a, dx, us, rfl, hA, rfl, [p2.1, p3.1, p.1], p3.2.st, W3, R3.entry, rl, ?_⟩
      cases e : mf [p2.1, p3.1, p.1] p3.2.st with
      | ok d =>
        simp only [e, bnd_ok] at q3
        exact fun v H' W' a' hv => q3 σ H' W' (RR.call R3 a') (((s1.trans s2).trans s3).trans a'.g0)
      | exc x st => exact absurd e (nx _ _ _ _)
      | stuck => simp only [e] at q3; exact q3.elim
    · exact q3.elim
  · exact q3.elim
end
section
variable {X : Cx} {E : XK} {a b e o : PySem.Expr} {pos p tpos apos : Pos} {C : Addr} {ma mb mv mo : RE → Out (D × RE)}
theorem em_getO {k j : Nat} {mf : Fn} (F : Spc X.prog X.w X.K X.mg X.base k C "__getitem__" 2 mf) (hr : Room j X.A) (ha : EM X E a ma) (hb : EM X E b mb) (hj : k + 1 ≤ j := by decide)
    (hsl : ∀ (x : Addr) (i : Value), subscripted b true (.ref x) i = runValue (.builtin "lifetime.subscript" ⟨[.ref x, i], []⟩) := by intro _ _; with_unfolding_all rfl) : EM X E (.Subscript a b pos) (mGetO C mf ma mb) := by
  obtain ⟨_, a1, a2⟩ := ha
  obtain ⟨_, b1, b2⟩ := hb
  obtain ⟨g, h1, h2, h3, h4⟩ := F.ex
  obtain ⟨fd, ps, F1, F2⟩ := h4.ex
  exact ⟨_, ix_own F1 h1 h2 h3 F2 (hr.mono hj) a1 b1 hsl, snd_getO h4.nx a2 b2⟩
theorem sm_setO {k j : Nat} {mf : Fn} (S : SpK X.K C) (F : Spc X.prog X.w X.K X.mg X.base k C "__setitem__" 3 mf) (hr : Room j X.A) (ho : EM X E o mo) (hi : EM X E a ma) (hv : EM X E e mv) (hj : k ≤ j := by decide) (ha : ∀ v, assign (.Subscript o a tpos) X.env v = (do
      let ov ← holding [v] (eval o X.env)
      let iv ← holding [v, ov] (eval a X.env)
      standAt tpos
      holding [v, ov, iv] (setItem ov iv v)
      release [v, ov, iv] []) := by intro _; rfl) (hs : swapsWithSole [.Subscript o a tpos] e pos.line X.env = pure false := by rfl) (hw : swappedStores [.Subscript o a tpos] e X.env = pure none := by rfl)
    (h1 : (assignEach [.Subscript o a tpos] X.env).map (·.2) = [assign (.Subscript o a tpos) X.env] := by rfl) : SM X E (.Assign [.Subscript o a tpos] e pos) (mSetO C mf mo ma mv) := by
  obtain ⟨_, o1, o2⟩ := ho
  obtain ⟨_, i1, i2⟩ := hi
  obtain ⟨_, v1, v2⟩ := hv
  obtain ⟨g, g1, g2, g3, g4⟩ := F.ex
  obtain ⟨fd, ps, F1, F2⟩ := g4.ex
  exact ⟨_, ps_asg v1 (pg_sub o1 i1 (set_own F1 S.seq g1 g2 F2 (hr.mono hj)) ha) hs hw h1, snds_setO g4.nx o2 i2 v2⟩
end
end Mir
set_option maxHeartbeats 400000
namespace Mir
open PySem PySem.Spec PyProof.Rows L2
/-! ## [*d, ..], d a dict -/
@[simp] def mConsS (m : RE → Out (D × RE)) (as_ : RE → Out (List D × RE)) : RE → Out (List D × RE) := fun r => (m r).bnd fun x => match dr x.2.st x.1 with
  | some (.dic kvs) => (as_ x.2).bnd fun y => .ok (kvs.map kvKey ++ y.1, y.2)
  | _ => .stuck
end Mir
set_option maxHeartbeats 400000
namespace Mir
open PySem PySem.Spec PyProof.Rows L2
/-- C(), its one parameter left out -/
structure Mkd (P : Program) (w : World) (K : PySem.W.Frag) (mg : Str → Option Value) (base : Heap) (k : Nat) (x : Str) (C : Addr) (n : Nat) (mf : Fn) : Prop where
  ex : ∃ g ds, Mk K C g ∧ mg x = some (.ref C) ∧ FnA P w K mg base k g (n + 1) mf ds ∧ Vals [.non] ds
section
variable {X : Cx} {E : XK} {e o : PySem.Expr} {pos p apos : Pos} {x f : Str} {C : Addr} {m mo : RE → Out (D × RE)}
theorem em_mkdK {k j n : Nat} {mf : Fn} (F : Mkd X.prog X.w X.K X.mg X.base k x C n mf) (hr : Room j X.A) (hj : k + 1 ≤ j := by decide) (hg : Gl X x := by rfl) (hdb : (x == ("__debug__" : Str)) = false := by decide) :
    EM X E (.Call (.Name x p) [] [] pos) (mCall (mkF C mf) [.non] mNil) := by
  obtain ⟨g, ds, M, hm, F0, hv⟩ := F.ex
  obtain ⟨fd, ps, F1, F2⟩ := F0.ex
  exact ⟨_, pe_make0 M F1 (hr.mono hj) hg hm F2 hv pass0 hdb, snd_make (hn_mk F0.hn) (nxf_mk F0.nx) (fun _ _ _ h => h) (fun W => by simp only [RepL, RepD]; exact ⟨_, _, rfl, rfl, rfl⟩) snd_nil⟩
/-- o.m() -/
theorem em_mth0 {k j n : Nat} {mf : Fn} {pl : Sem Bool} (F : Mth X.prog X.w X.K X.mg X.base k C f n mf) (hr : Room j X.A) (ho : EM X E o mo) (hj : k ≤ j := by decide)
    (ht : eval (.Call (.Attribute o f apos) [] [] pos) X.env = (do
      let ov ← eval o X.env
      standAt apos.atName
      let (f, first) ← holding [ov] (getMethod ov f pl)
      callWith pos f first (backTo pos (starEach [] X.env)) (backToKw pos (keywordEach [] X.env))) := by rfl) :
    EM X E (.Call (.Attribute o f apos) [] [] pos) (mMeth C f mf [] mo mNil) := by
  obtain ⟨_, o1, o2⟩ := ho
  obtain ⟨g, hc, hm, hF⟩ := F.ex
  obtain ⟨fd, ps, F1, F2⟩ := hF.ex
  exact ⟨_, pe_meth0 (pl := pl) o1 hc hm F1 (hr.mono hj) F2 .nil pass0 ht, snd_meth hF.hn hF.nx (fun _ => by simp only [RepL]) o2 snd_nil⟩
end
end Mir
namespace Lm
open PySem L2 Mir
noncomputable def l_Watch_init_2_1 (C : Cl) : RE → Out (Bool × RE) :=
      mYes
noncomputable def l_Watch_init_2_2 (C : Cl) : RE → Out (List D × RE) :=
      (mCons (mVar 2) (mCons (mOp2 dIxA (mVar 1) (mVar 2)) mNil))
noncomputable def b_Watch_init_2 (C : Cl) : RE → Out Fl :=
      (mSeq (mIf (mTAnd (mBool (mOp2 dIsNot (mVar 1) (mC .non))) (mTNot (mTruth (mCall (f_is_sight_table C) [] (mCons (mVar 1) mNil)))))
        mNoS
        mNext)
      (mSeq (mSetF C.Watch (Str.ofString "table") (mVar 0) (mCell mDnew))
      (mIf (mBool (mOp2 dIsNot (mVar 1) (mC .non)))
        (mSetF C.Watch (Str.ofString "table") (mVar 0) (mCell (mDicOf (mCGW anyI [2] (mVar 1) (stName 2) (l_Watch_init_2_1 C) (l_Watch_init_2_2 C) appD []))))
        mNext)))
noncomputable def k_Watch_init_2 (C : Cl) : Fn := n0 (fnK 2 3 (b_Watch_init_2 C))
noncomputable def b_Watch_getitem (C : Cl) : RE → Out Fl :=
      (mSeq (mIf (mTNot (mTruth (mCall (f_is_name C) [] (mCons (mVar 1) mNil))))
        mNoS
        mNext)
      (mRet (mGet (mFld C.Watch (Str.ofString "table") (mVar 0)) (mVar 1) (mC .non))))
noncomputable def k_Watch_getitem (C : Cl) : Fn := n0 (fnK 2 2 (b_Watch_getitem C))
noncomputable def f_Watch_getitem (C : Cl) : Fn := cutF (k_Watch_getitem C)
end Lm
set_option maxHeartbeats 1000000
/-! ## an own error over a class over ValueError: __init__ says super().__init__(text), then self.f = value -/
namespace XS
open PySem PySem.W PySem.Calls PyProof.Rows PySem.HandSPX
/-- the two statements -/
abbrev body2 (txt slf prm f : Str) (k : Nat) (p0 p1 p2 p3 p4 p5 p6 p7 p8 p9 : Pos) : List Stmt :=
  [.Expr (.Call (.Attribute (.Call (.Name "super" p0) [] [] p1) "__init__" p2) [.Constant (.str txt) k p3] [] p4) p5, .Assign [.Attribute (.Name slf p6) f p7] (.Name prm p8) p9]
section
variable {prog : Program} {w : World} {A : Around} {E : Value → Shared → Prop} {h : Heap} {g : Array GenState} {d : Drawn} {t : Nat} {os : OsState}
variable {nm q : Str} {C N : Addr} {bs bm bmB : List Value} {hdct : Bool} {sn : List Str} {sub : List Value} {ab : Bool} {col : Option Bool} {dd : Option Addr} {k0 k1 k2 k3 k5 : Option Value} {B newId initId : String}
/-- the bound __init__ called -/
theorem call_mw (FB : ExcBaseFacts B newId initId bmB) {u e t0 : Addr} {rest : List Value} {Q : Value → Shared → Prop}
    (hC : h.get? C = some (excClassObj nm q C N bs bm hdct sn sub ab col dd k0 k1 k2 k3 k5 newId)) (he : h.get? e = some (excO C t0)) (hu : h.get? u = some (kxs_mw initId e)) (hrest : rest.length ≤ sizeLine)
    (hq : ∀ h' t1, (∀ b o, b ≠ e → h.get? b = some o → h'.get? b = some o) → h'.get? e = some (excO C t1) → Q .none ⟨h', g, d, t, os⟩) :
    wpAny (model prog w) A (call (.ref u) rest) Q E ⟨h, g, d, t, os⟩ := by
  refine wpAny_call (codeAny_of_tree (show wpAny _ A.in1 (callAny (.ref u) ⟨rest, []⟩) _ _ _ from ?_))
  simp only [callAny]
  refine wpAny_bind (wpAny_load hu (KFB.if_so (by rfl) (wpAny_bind (check_bound_init FB.toExcCallFacts hC he rfl (wpAny_bind (wpAny_pure (wpAny_pure ⟨plainId_quiet FB.init.plain _, codeAny_builtin FB.initEntry ?_⟩)))))))
  exact exc_init_tree (cls := .ref C) (t0 := t0) (dv := none) (c2 := .none) (c3 := .none) (b4 := .bool false) he hrest fun h2 kp g2 _ => hq h2 _ kp g2
end
section
variable {prog : Program} {w : World} {A : Around} {R : Result → Shared → Prop} {hp : Heap} {g : Array GenState} {d : Drawn} {t : Nat} {os : OsState}
variable {K : Frag} {mg mb : Str → Option Value} {nm q : Str} {C N : Addr} {bs bm : List Value} {sn : List Str} {sub : List Value} {ab : Bool} {col : Option Bool} {dd : Option Addr} {k0 k1 k2 k3 k5 : Option Value}
variable {name qual txt slf prm f file : Str} {tf : Tok} {params : Arguments} {scope : Scope} {dV kV doc pm ct oc ccl cl : Value} {an od cdd cld : Option Addr} {osl ccs csl : Array (Option Value)} {vs : Array Value} {fI cc cda e t0 : Addr} {ar : Arg} {k : Nat} {p0 p1 p2 p3 p4 p5 p6 p7 p8 p9 : Pos} {u : Value}
theorem init_sup (hroom : A.depth < recursionLimit) (X : K.In hp) (hlim : hp.NoLimit) (hg : hp.Ns mainGlobals mg) (hb : hp.Ns builtinsNs mb) (hmb : mb "super" = some (.type "super")) (hms : mg "super" = none)
    (hC : K.lookup C = some (excClassObj nm q C N bs bm true sn sub ab col dd k0 k1 k2 k3 k5 "ValueError.__new__")) (hbm : refsVE bm = true)
    (hfI : K.lookup fI = some ⟨oc, od, .func (ksFn name qual params (body2 txt slf prm f k p0 p1 p2 p3 p4 p5 p6 p7 p8 p9) scope dV kV doc pm an (.ref cda) ct cc), osl⟩) (hcd : codeIn K (.ref cda) qual = true)
    (hcode : K.lookup cda = some ⟨ccl, cdd, .fields vs, ccs⟩) (hvs : vs[2]? = some (.str file tf)) (hfile : ((prog.main.file : Str) == file) = true)
    (hcell : K.lookup cc = some ⟨cl, cld, .cell (some (.ref C)), csl⟩) (hth : nsIn K cStatics "thirdparty.any" = some none) (hal : alongIn K "__init__" bm = some (some (.builtin "ValueError.__init__")))
    (sa : findIn K (.ref C) "__setattr__" = some (some (.builtin "object.__setattr__"))) (hno : findIn K (.ref C) f = some none)
    (hp1 : (params.posonlyargs ++ params.args).head? = some ar) (har : ar.arg = slf)
    (hks : scope.names.lookup ("super" : Str) = some .globalImplicit) (hkc : scope.names.lookup ("__class__" : Str) = some .free) (hka : scope.names.lookup slf = some .local) (hkp : scope.names.lookup prm = some .local) (hk : scope.kind = .function)
    (hco : scope.isCoroutine = false) (hgen : scope.isGenerator = false) (hnc : ∀ x ∈ scope.names, x.2 ≠ .cell) (htop : (prog.main.scope.names.lookup ("super" : Str)).isSome = false) (hne : slf ≠ prm)
    (hbind : BindsTo ⟨hp, g, d, t, os⟩ (ksFn name qual params (body2 txt slf prm f k p0 p1 p2 p3 p4 p5 p6 p7 p8 p9) scope dV kV doc pm an (.ref cda) ct cc) ⟨[.ref e, u], []⟩ [(slf, .ref e), (prm, u)])
    (hd1 : (slf == ("__debug__" : Str)) = false) (hd2 : (prm == ("__debug__" : Str)) = false) (hs2 : ∀ env : Env, swapsWith (.Name prm p8) (some (.Attribute (.Name slf p6) f p7)) p9.line env = pure false)
    (hev : ∀ env : Env, ∃ pl : Sem Bool, eval (.Call (.Attribute (.Call (.Name "super" p0) [] [] p1) "__init__" p2) [.Constant (.str txt) k p3] [] p4) env = (do
      let ov ← attributeBase (.Call (.Name "super" p0) [] [] p1) "__init__" env (eval (.Call (.Name "super" p0) [] [] p1) env)
      standAt p2.atName
      let (f, first) ← holding [ov] (getMethod ov "__init__" pl)
      callWith p4 f first (backTo p4 (starEach [.Constant (.str txt) k p3] env)) []))
    (he : hp.get? e = some (excO C t0)) (hKe : ∀ o, K.lookup e ≠ some o)
    (hq : ∀ h' tk' dx t1, (∀ b o, b ≠ e → hp.get? b = some o → h'.get? b = some o) → hp.objs.size ≤ dx → dx ≠ e → h'.get? e = some { cls := .ref C, dict := some dx, data := .fields #[.ref t1, .none, .none, .none, .bool false, .none] } →
      h'.Ns1 dx (fun y => if y = f then some u else none) → R (.ok (.ret .none)) ⟨h', g, d, tk', os⟩) :
    codeAny (model prog w) A (.call (.ref fI) ⟨[.ref e, u], []⟩) R ⟨hp, g, d, t, os⟩ := by
  have hcl : clsIn K C = some { name := nm, bases := bs, mro := .ref C :: bm, ns := N, qualname := q, hasDict := true, slotNames := sn, subclasses := sub, abstract := ab, collection := col, hasDel := false } := by unfold clsIn; rw [hC] <;> rfl
  refine ks_codeAny_call_defAt (fd := ksFn name qual params (body2 txt slf prm f k p0 p1 p2 p3 p4 p5 p6 p7 p8 p9) scope dV kV doc pm an (.ref cda) ct cc) (body := body2 txt slf prm f k p0 p1 p2 p3 p4 p5 p6 p7 p8 p9) (binds := [(slf, .ref e), (prm, u)]) hroom (X _ _ hfI) rfl hlim (codeRec_of X hcd) rfl hbind hnc (fun x hx => ?_) (fun h₁ hns hk₁ => ?_) hco hgen hk
  · simp only [List.mem_cons, List.not_mem_nil, or_false] at hx
    rcases hx with rfl | rfl
    · exact hka
    · exact hkp
  have X1 : K.In h₁ := X.keeps hk₁
  have he1 := hk₁ _ _ he
  have hsz : ∀ {b : Addr} {o : Obj}, hp.get? b = some o → b ≠ hp.objs.size := fun z => Nat.ne_of_lt (Heap.lt_size z)
  have hes : e ≠ hp.objs.size := hsz he
  have l1 : ([(slf, Value.ref e), (prm, u)].reverse.lookup slf) = some (.ref e) := by
    have : (slf == prm) = false := beq_eq_false_iff_ne.mpr hne
    simp [List.lookup, this]
  have l2 : ([(slf, Value.ref e), (prm, u)].reverse.lookup prm) = some u := by simp [List.lookup]
  obtain ⟨pl, hpl⟩ := hev (callEnv (ksFn name qual params (body2 txt slf prm f k p0 p1 p2 p3 p4 p5 p6 p7 p8 p9) scope dV kV doc pm an (.ref cda) ct cc) hp.objs.size fI)
  refine ks_wpAt_execs_cons (ks_wpAt_Expr_any (ks_wpAt_MethodCall (pl := pl) ?_ hpl) (by show (scope.kind == .module && _) = false; rw [hk]; rfl) rfl)
  refine ks_wpAt_super_base (f := fI) (cc := cda) (ar := ar) hks hkc (by decide) rfl (X1 _ _ hfI) rfl hp1 rfl (X1 _ _ hcode) rfl hvs hfile htop ?_
  refine ks_loadName_global hk hks (loadGlobal_builtin (hg.keeps hk₁) hms (hb.keeps hk₁) hmb ⟨rfl, ?_⟩)
  refine wpAny_loadName_free hk hkc rfl ⟨_, X1 _ _ hcell, rfl⟩ ?_
  rw [har]
  refine wpAny_loadName_local hk hka hns l1 ?_
  refine ks_wpAny_isType_cls (X1 _ _ hC) rfl ⟨rfl, ?_⟩
  refine ks_wpAny_call_super (X1 _ _ hC) rfl he1 rfl (fun c z => by cases z) (looks_mroIn X1 (by unfold mroIn; rw [hcl]; simp)) (fun h2 hso k2 => ?_)
  have X2 : K.In h2 := X1.keeps k2
  have he2 := k2 _ _ he1
  have hmr : Looks (model prog w) h2 (mroOf (.ref C)) (.ref C :: bm) := (looks_clsIn X2 hcl).andThen .now
  have hin : Looks (model prog w) h2 (isInstance (.ref e) (.type "ValueError")) true := by
    have I : InstAt h2 e (excO C t0) C none := ⟨he2, rfl, rfl, trivial⟩
    refine I.type.andThen (looks_mroIn X2 ?_)
    unfold mroIn
    rw [hcl, Option.bind_some, if_neg (by simp)]
    rw [show (Value.ref C :: bm).contains (.type "ValueError") = bm.contains (.type "ValueError") by simp [List.contains_cons]]
    rw [refsVE_contains "ValueError" bm hbm]
    decide +kernel
  refine kxs_getMethod kxs_ValueError hso (looks_opaque X2 hth) hmr (l := bm) (by simp [List.dropWhile_cons]) X2 hal hin (fun z => by rw [z] at he2; have := X2 _ _ hC; rw [he2] at this; cases this) (by decide) ?_
  have hk3 : ∀ b o, h2.get? b = some o → (h2.push (kxs_mw "ValueError.__init__" e)).get? b = some o := fun b o z => Heap.get?_push_of_some _ z
  have hu3 : (h2.push (kxs_mw "ValueError.__init__" e)).get? h2.objs.size = some (kxs_mw "ValueError.__init__" e) := Heap.get?_push_size _ rfl
  have hst : backTo p4 (starEach [.Constant (.str txt) k p3] (callEnv (ksFn name qual params (body2 txt slf prm f k p0 p1 p2 p3 p4 p5 p6 p7 p8 p9) scope dV kV doc pm an (.ref cda) ct cc) hp.objs.size fI)) = [(false, eval (.Constant (.str txt) k p3) (callEnv (ksFn name qual params (body2 txt slf prm f k p0 p1 p2 p3 p4 p5 p6 p7 p8 p9) scope dV kV doc pm an (.ref cda) ct cc) hp.objs.size fI))] := rfl
  show wpAny _ _ (callWith p4 (.ref h2.objs.size) [] (backTo p4 (starEach [.Constant (.str txt) k p3] (callEnv (ksFn name qual params (body2 txt slf prm f k p0 p1 p2 p3 p4 p5 p6 p7 p8 p9) scope dV kV doc pm an (.ref cda) ct cc) hp.objs.size fI))) []) _ _ _
  rw [hst]
  refine kxs_callWith (i := "ValueError.__init__") (x := e) rfl (evalArgs_plain (spliced_cons (Constant_str (spliced_nil ⟨hu3, ?_⟩))))
  refine call_mw F.excBase_ValueError (hk3 _ _ (X2 _ _ hC)) (hk3 _ _ he2) hu3 (by simp [sizeLine_eq]) (fun h4 t1 k4 he4 => ?_)
  have keep4 : ∀ b o, b ≠ e → h₁.get? b = some o → h4.get? b = some o := fun b o hb z => k4 b o hb (hk3 b o (k2 b o z))
  have ne : ∀ {b : Addr} {o : Obj}, K.lookup b = some o → b ≠ e := fun {b o} z y => hKe o (y ▸ z)
  have X4 : K.In h4 := fun b o z => keep4 b o (ne z) (X1 b o z)
  have hns4 : h4.Ns hp.objs.size (fun x => [(slf, Value.ref e), (prm, u)].reverse.lookup x) := by
    obtain ⟨oL, es, ep, hL, r⟩ := hns
    exact ⟨oL, es, ep, keep4 _ _ (Ne.symm hes) hL, r⟩
  refine ks_wpAt_execs_cons (ks_wpAt_Assign_Attr ?_ (hs2 _))
  refine wpAt_of_wpAny (wpAny_Name (wpAny_loadName_local hk hkp hns4 l2 ?_) hd2)
  refine wpAny_Name (wpAny_loadName_local hk hka hns4 l1 ?_) hd1
  refine set_plain X4 (ox := excO C t1) (od := none) ⟨he4, rfl, rfl, trivial⟩ sa ?_
  refine exc_osa X4 he4 hcl (show refsVE (.ref C :: bm) = true from hbm) rfl hno (fun h5 tk5 dx k5 dn dne hx hn => ?_)
  refine wpAt_of_wpAny (wpAny_execs_nil ?_)
  refine hq h5 tk5 dx t1 (fun b o hb z => k5 b o hb (keep4 b o hb (hk₁ b o z))) ?_ dne hx hn
  have : h4.get? hp.objs.size ≠ none := by
    obtain ⟨oL, es, ep, hL, r⟩ := hns4
    rw [hL]; simp
  have h6 : hp.objs.size < h4.objs.size := by
    cases z : h4.get? hp.objs.size with
    | none => exact absurd z this
    | some o => exact Heap.lt_size z
  exact Nat.le_of_lt (Nat.lt_of_lt_of_le h6 dn)
end
end XS
set_option maxHeartbeats 1000000
namespace XS
open PySem PySem.W PySem.Calls PyProof.Rows PySem.HandSPX L2
/-- what the written part says of such a class -/
structure SupFn (P : Program) (K : Frag) (C : Addr) (f : Str) (fI cc cda : Addr) (name qual txt slf prm file : Str) (tf : Tok) (params : Arguments) (scope : Scope) (dV kV doc pm ct oc ccl cl : Value) (an od cdd cld : Option Addr) (osl ccs csl : Array (Option Value)) (vs : Array Value) (ar : Arg) (k : Nat) (p0 p1 p2 p3 p4 p5 p6 p7 p8 p9 : Pos) : Prop where
  iC : findIn K (.ref C) "__init__" = some (some (.ref fI))
  tI : typeIn K (.ref fI) = some (.type "function")
  hfI : K.lookup fI = some ⟨oc, od, .func (ksFn name qual params (body2 txt slf prm f k p0 p1 p2 p3 p4 p5 p6 p7 p8 p9) scope dV kV doc pm an (.ref cda) ct cc), osl⟩
  hcd : codeIn K (.ref cda) qual = true
  hcode : K.lookup cda = some ⟨ccl, cdd, .fields vs, ccs⟩
  hvs : vs[2]? = some (.str file tf)
  hfile : ((P.main.file : Str) == file) = true
  hcell : K.lookup cc = some ⟨cl, cld, .cell (some (.ref C)), csl⟩
  hno : findIn K (.ref C) f = some none
  hp1 : (params.posonlyargs ++ params.args).head? = some ar
  har : ar.arg = slf
  hks : scope.names.lookup ("super" : Str) = some .globalImplicit
  hkc : scope.names.lookup ("__class__" : Str) = some .free
  hka : scope.names.lookup slf = some .local
  hkp : scope.names.lookup prm = some .local
  hk : scope.kind = .function
  hco : scope.isCoroutine = false
  hgen : scope.isGenerator = false
  hnc : ∀ x ∈ scope.names, x.2 ≠ .cell
  htop : (P.main.scope.names.lookup ("super" : Str)).isSome = false
  hne : slf ≠ prm
  hbind : ∀ (s : Shared) (e u : Value), BindsTo s (ksFn name qual params (body2 txt slf prm f k p0 p1 p2 p3 p4 p5 p6 p7 p8 p9) scope dV kV doc pm an (.ref cda) ct cc) ⟨[e, u], []⟩ [(slf, e), (prm, u)]
  hd1 : (slf == ("__debug__" : Str)) = false
  hd2 : (prm == ("__debug__" : Str)) = false
  hs2 : ∀ env : Env, swapsWith (.Name prm p8) (some (.Attribute (.Name slf p6) f p7)) p9.line env = pure false
  hev : ∀ env : Env, ∃ pl : Sem Bool, eval (.Call (.Attribute (.Call (.Name "super" p0) [] [] p1) "__init__" p2) [.Constant (.str txt) k p3] [] p4) env = (do
      let ov ← attributeBase (.Call (.Name "super" p0) [] [] p1) "__init__" env (eval (.Call (.Name "super" p0) [] [] p1) env)
      standAt p2.atName
      let (f, first) ← holding [ov] (getMethod ov "__init__" pl)
      callWith p4 f first (backTo p4 (starEach [.Constant (.str txt) k p3] env)) [])
structure SupC (P : Program) (K : Frag) (mg : Str → Option Value) (C : Addr) (f : Str) : Prop where
  ox : OexC K C
  ms : mg "super" = none
  th : nsIn K cStatics "thirdparty.any" = some none
  al : ∀ {nm q : Str} {N : Addr} {bs bm : List Value} {sn : List Str} {sub : List Value} {ab : Bool} {col : Option Bool} {dd : Option Addr} {k0 k1 k2 k3 k5 : Option Value}, K.lookup C = some (excClassObj nm q C N bs bm true sn sub ab col dd k0 k1 k2 k3 k5 "ValueError.__new__") → alongIn K "__init__" bm = some (some (.builtin "ValueError.__init__"))
  fn : ∃ (fI cc cda : Addr) (name qual txt slf prm file : Str) (tf : Tok) (params : Arguments) (scope : Scope) (dV kV doc pm ct oc ccl cl : Value) (an od cdd cld : Option Addr) (osl ccs csl : Array (Option Value)) (vs : Array Value) (ar : Arg) (k : Nat) (p0 p1 p2 p3 p4 p5 p6 p7 p8 p9 : Pos),
    SupFn P K C f fI cc cda name qual txt slf prm file tf params scope dV kV doc pm ct oc ccl cl an od cdd cld osl ccs csl vs ar k p0 p1 p2 p3 p4 p5 p6 p7 p8 p9
/-- C(e) -/
def tMkS (C : Addr) (f : Str) (ta : TA) : L2.St → Hp → XK → Prop := fun σ H Q => ta σ H fun vs H1 => ∃ v, vs = [v] ∧ ∀ d, H1 d = none → Q (.ref C) (some d) (upd H1 d (.xd [(f, v)]))
section
variable {X : Cx} {e : PySem.Expr} {ta : TA} {f x : Str} {C : Addr} {p pos : Pos}
theorem pmk_sup {k : Nat} (T : SupC X.prog X.K X.mg C f) (hr : Room (k + 1) X.A) (hg : Gl X x) (hm : X.mg x = some (.ref C)) (ha : PA X [e] ta)
    (hdb : (x == ("__debug__" : Str)) = false := by decide) (he : starEach [e] X.env = (false, eval e X.env) :: starEach [] X.env := by rfl) (hpl : (backTo pos (starEach [] X.env)).any (·.1) = false := by rfl) :
    PMk X (.Call (.Name x p) [e] [] pos) (tMkS C f ta) := by
  intro pins s σ H Q I h
  obtain ⟨nm, q, N, bs, bm, sn, sub, ab, col, dd, k0, k1, k2, k3, k5, hC, hbm⟩ := T.ox.cls
  obtain ⟨fI, cc, cda, name, qual, txt, slf, prm, file, tf, params, scope, dV, kV, doc, pm, ct, oc, ccl, cl, an, od, cdd, cld, osl, ccs, csl, vs, ar, kk, p0, p1, p2, p3, p4, p5, p6, p7, p8, p9, F1⟩ := T.fn
  refine wpAny_Call_Name_kw (ld_glob I hg hm ?_ hdb)
  refine callWith_K (h₀ := X.base) I.ok.mod.kin T.ox.kC (thn (ha.run pos pins s σ H _ I h) fun us s1 ⟨vs, H1, I1, r1, v, ev, q1⟩ => ⟨I1.kIn, ?_⟩) he hpl
  subst ev
  obtain ⟨u, rfl, ru⟩ := vals1 r1
  show wpAny _ _ (call (.ref C) [u]) _ _ _
  obtain ⟨hp, g, dr, tk, os⟩ := s1
  obtain ⟨mb, hb, hmb⟩ := I1.ok.mod.blt
  have bk : ∀ b o, X.base.get? b = some o → hp.get? b = some o := fun b o z => (I1.env0.bs b o z).1
  have kp : ∀ b o, hp.get? b = some o → ((hp.push (kdv_tup [u])).push (excO C hp.objs.size)).get? b = some o := fun b o e => Heap.get?_push_of_some _ (Heap.get?_push_of_some _ e)
  have hget : ((hp.push (kdv_tup [u])).push (excO C hp.objs.size)).get? (hp.objs.size + 1) = some (excO C hp.objs.size) := by heap_get
  refine wpAny_call (call_own F.excBase_ValueError (fun Y => refsVE_contains Y bm hbm) (I1.kIn _ _ hC) (looks_findIn I1.kIn F1.iC) (fun self => bind_fn I1.kIn self F1.tI) (by simp [sizeLine_eq]) ?_)
  refine init_sup (mg := X.mg) (mb := mb) (hr.make C [u] []).depth (I1.kIn.keeps kp) ((I1.ok.mod.nolimit.keeps bk).keeps kp) ((I1.ok.mod.glob.keeps bk).keeps kp) ((hb.keeps bk).keeps kp) ((hmb _ (by decide)).trans (by first | rfl | decide +kernel)) T.ms hC hbm F1.hfI F1.hcd F1.hcode F1.hvs F1.hfile F1.hcell T.th (T.al hC) T.ox.sa F1.hno F1.hp1 F1.har F1.hks F1.hkc F1.hka F1.hkp F1.hk F1.hco F1.hgen F1.hnc F1.htop F1.hne (F1.hbind _ _ _) F1.hd1 F1.hd2 F1.hs2 F1.hev hget (fun o z => ?_) (fun h' tk' dx t1 k' dn dne hx hn => ?_)
  · have z2 : hp.objs.size + 1 < hp.objs.size := Heap.lt_size (I1.kIn _ _ z)
    exact absurd z2 (Nat.not_lt.mpr (Nat.le_succ _))
  · refine ⟨rfl, ?_⟩
    have hsz : ((hp.push (kdv_tup [u])).push (excO C hp.objs.size)).objs.size = hp.objs.size + 2 := by rw [Heap.size_push, Heap.size_push]
    have dn' : hp.objs.size ≤ dx := by
      rw [hsz] at dn
      exact Nat.le_trans (Nat.le_add_right _ 2) dn
    have hnd : H1 dx = none := I1.hok.fresh dn'
    obtain ⟨G, g1', g2'⟩ := restrict h' fun b => decide (b ≠ hp.objs.size + 1)
    have gk : ∀ b, b ≠ hp.objs.size + 1 → G.get? b = h'.get? b := fun b hb => g1' b (decide_eq_true hb)
    have ge : G.get? (hp.objs.size + 1) = none := g2' _ (by simp)
    have keep : ∀ b o, hp.get? b = some o → G.get? b = some o := fun b o z => by
      have hb : b ≠ hp.objs.size + 1 := Nat.ne_of_lt (Nat.lt_succ_of_lt (Heap.lt_size z))
      rw [gk b hb]
      exact k' b o hb (kp b o z)
    have ok : ObjOk X.prog X.w (upd H1 dx (.xd [(f, v)])) G dx (.xd [(f, v)]) := ⟨_, hn.at fun o z => by rw [gk dx dne]; exact z, fun y => relO_put (fs := []) (mA := fun _ => none) ru (fun _ => True.intro) y⟩
    have J := I1.laid (t' := tk') (a := dx) (o := .xd [(f, v)]) (h' := G) keep dn' ok
    refine ⟨hp.objs.size + 1, _, _, ⟨G, g, dr, tk', os⟩, _, .ref C, some dx, rfl, J, fun b o z => ?_, ge, hx, ⟨rfl, rfl⟩, rfl, rfl, ?_, rfl, I1.bare, raises_own T.ox.exC T.ox.tyC, q1 dx hnd⟩
    · by_cases hb : b = hp.objs.size + 1
      · rw [hb, ge] at z; cases z
      · rw [← gk b hb]; exact z
    · rw [upd_ne (Ne.symm dne)]
      exact I1.hok.fresh (Nat.le_succ _)
end
end XS
set_option maxHeartbeats 1000000
namespace XS
open PySem PySem.Spec PyProof.Rows L2
/-! ## try with clauses that all bind one name -/
abbrev ClT := Value × (Addr → Value → Option Addr → TS)
/-- behind a suite the slot i is empty again -/
abbrev endsI (i : Nat) (D : Ends) : Ends where
  nx := fun σ1 H1 => D.nx (σ1.set i none) H1
  rt := D.rt
  bk := fun σ1 H1 => D.bk (σ1.set i none) H1
  ct := fun σ1 H1 => D.ct (σ1.set i none) H1
/-- the clauses' wishes, from the first on -/
def wNamed (K : PySem.W.Frag) (i : Nat) (Wo : WX) (D : Ends) : List ClT → WX
  | [] => Wo
  | q :: qs => fun cl dx σ H => ∃ hit, PySem.W.exmOne K cl q.1 = some hit ∧ (if hit = true then ∀ at_, H at_ = none → q.2 at_ cl dx (endsI i D) (σ.set i (some (.ref at_))) H else wNamed K i Wo D qs cl dx σ H)
/-- each clause: what it names, what its suite reads -/
inductive ClsOk (X : Cx) (nam : Str) : List ExceptHandler → List ClT → Prop
  | nil : ClsOk X nam [] []
  | cons {cn : Str} {q : ClT} {s0 : Stmt} {ss : List Stmt} {pa pb : Pos} {hs : List ExceptHandler} {qs : List ClT} : Names X cn q.1 →
      (∀ (at_ : Addr) (ob : Obj) (cl : Value) (dx : Option Addr) (pn : List (Addr × Obj)), Zc cl dx ob → (∃ fl, ob.data = .fields fl) → PSs (X.suite at_ ((at_, ob) :: pn)) (s0 :: ss) (q.2 at_ cl dx)) →
      ClsOk X nam hs qs → ClsOk X nam (.ExceptHandler (some (.Name cn pa)) (some nam) (s0 :: ss) pb :: hs) (q :: qs)
section
variable {X : Cx} {nam : Str} {i : Nat} {bd : List Stmt} {h0 : ExceptHandler} {hs : List ExceptHandler} {qs : List ClT} {pos : Pos} {tb : WX → TS} {Wo : WX}
/-- a clause's test: the class that it names is read -/
theorem names_run {pins : List (Addr × Obj)} {σ : L2.St} {H : Hp} {s : Shared} {at_ : Addr} {pn : List (Addr × Obj)} {cn : Str} {c : Value} {pa : Pos} {Q : Value → Shared → Prop} {Ex : Value → Shared → Prop} (I : Inv (X.suite at_ pn) pins σ H s) (hc : Names X cn c) (q : Q c s) :
    wpAny (model X.prog X.w) (X.A.mark (some (.ref at_))) (eval (.Name cn pa) X.env) Q Ex s := by
  rcases hc with ⟨g, nd, m | ⟨m, bv, nn⟩⟩
  · exact ld_glob (X := X.suite at_ pn) I g m q nd
  · exact ld_blt (X := X.suite at_ pn) I g m bv q nn nd
/-- how a suite ends: the name goes, then as wished -/
theorem suite_end {pins : List (Addr × Obj)} {s : Shared} {at_ : Addr} {pr : Addr × Obj} {D : Ends} {fl : Flow} {pb : Pos} (ok : X.Ok) (nd : X.N.Nodup) (hi : X.N[i]? = some nam) (lk : X.env.kindOf nam = some .local)
    (h : SP (X.suite at_ (pr :: (X.pn ++ pins))) [] (endsI i D) fl s) : wpAny (model X.prog X.w) X.A (do bindName X.env nam .none; unbindBehindTheSuite X.env nam pb) (fun _ s' => SP X pins D fl s') X.xe s := by
  cases fl with
  | ret u => rcases h with ⟨v, σ1, H1, I1, rv, w⟩; exact gone_ok (I1.unsuite ok) nd hi lk fun _ I2 => ⟨v, _, H1, I2, rv, w⟩
  | next => rcases h with ⟨σ1, H1, I1, w⟩; exact gone_ok (I1.unsuite ok) nd hi lk fun _ I2 => ⟨_, H1, I2, w⟩
  | brk => rcases h with ⟨σ1, H1, I1, w⟩; exact gone_ok (I1.unsuite ok) nd hi lk fun _ I2 => ⟨_, H1, I2, w⟩
  | cont => rcases h with ⟨σ1, H1, I1, w⟩; exact gone_ok (I1.unsuite ok) nd hi lk fun _ I2 => ⟨_, H1, I2, w⟩
/-- a body's end is the statement's end -/
theorem body_end {pins : List (Addr × Obj)} {pn : List (Addr × Obj)} {xe : Value → Shared → Prop} {D : Ends} {fl : Flow} {s : Shared} (ok : X.Ok) (hp : pn = X.pn ++ pins) (h : SP (X.tr pn xe) [] D fl s) : SP X pins D fl s := by
  subst hp
  cases fl with
  | ret u => rcases h with ⟨v, σ1, H1, I1, rv, w⟩; exact ⟨v, σ1, H1, I1.ofTry ok, rv, w⟩
  | next => rcases h with ⟨σ1, H1, I1, w⟩; exact ⟨σ1, H1, I1.ofTry ok, w⟩
  | brk => rcases h with ⟨σ1, H1, I1, w⟩; exact ⟨σ1, H1, I1.ofTry ok, w⟩
  | cont => rcases h with ⟨σ1, H1, I1, w⟩; exact ⟨σ1, H1, I1.ofTry ok, w⟩
theorem ps_try_named (stk : X.stack = X.env :: X.outer) (frm : X.env.frame = some X.env.locals) (nd : X.N.Nodup) (hi : X.N[i]? = some nam) (lk : X.env.kindOf nam = some .local) (out : Takes X Wo)
    (run : ∀ (W : WX) (pn : List (Addr × Obj)) (xe : Value → Shared → Prop), Takes (X.tr pn xe) W → PassesOwn (model X.prog X.w) X.A X.env xe → PSs (X.tr pn xe) bd (tb W))
    (cl : ClsOk X nam (h0 :: hs) qs) : PS X (.Try bd (h0 :: hs) [] [] pos) (fun D σ H => tb (wNamed X.K i Wo D qs) D σ H) := by
  constructor
  intro pins s σ H D I wish
  have fr : X.A.frames = some (X.env :: X.outer) := I.ok.frames.trans (congrArg some stk)
  refine wpAny_Try_except (wpAny_mono ((run _ (X.pn ++ pins) _ (fun u s1 thrown => ?caught) PassesOwn.looking).run [] s σ H D (I.toTry _) wish) (fun fl s1 e => ?ended) fun _ _ z => z)
  case ended =>
    have e' := body_end I.ok rfl e
    cases fl
    case next => exact wpAny_execs_nil e'
    all_goals exact e'
  case caught =>
    rcases thrown with ⟨at_, B, sG, pG, σG, HG, cls, dx, rfl, IG, below, same, high, free, oss, bare, want⟩
    have I0 := IG.ofTry I.ok
    show wpAny _ X.A (noteFrame (.ref at_) X.env) _ _ _
    refine Sky.land Zc.steady fr frm (stk ▸ high) fun hL fly same1 => ?_
    rcases fly.there with ⟨ob, fl, get, zc, dat⟩
    have out_ : at_ ∉ frs (X.env :: X.outer) := fun m => by
      rcases (show hL.FunFrames B (X.env :: X.outer) from fly.2.2.1).mem m with ⟨_, o2, g2, bad⟩
      exact bad fl (Option.some.inj (get.symm.trans g2) ▸ dat)
    have n1 : at_ ≠ X.env.locals := fun z => out_ (List.mem_filterMap.mpr ⟨X.env, .head _, frm.trans (congrArg some z.symm)⟩)
    have n2 : at_ ∉ X.fs := fun m => let ⟨en, me, fe⟩ := List.mem_filterMap.mp m; out_ (List.mem_filterMap.mpr ⟨en, .tail _ me, fe⟩)
    have IL : Inv X pins σG HG ⟨hL, s1.gens, s1.drawn, s1.toks, s1.os⟩ := I0.landed below fly.1 (same.trans same1) oss bare
    have each : ∀ {hs' : List ExceptHandler} {qs' : List ClT}, ClsOk X nam hs' qs' → wNamed X.K i Wo D qs' cls dx σG HG → wpAny (model X.prog X.w) X.A (handleBy (.ref at_) X.env hs') (SP X pins D) X.xe ⟨hL, s1.gens, s1.drawn, s1.toks, s1.os⟩ := by
      intro hs' qs' c
      induction c with
      | nil =>
        intro w
        rcases id fly with ⟨_, _, _, ob1, fl1, T, _, _, g1, _, d1, f1, _⟩
        refine wpAny_handleBy_nil ?_
        unfold PySem.passOn
        refine wpAny_bind (wpAny_field g1 d1 f1 ?_)
        rw [if_neg (by simp : ¬ (Value.ref T == Value.none) = true)]
        refine wpAny_bind ?_
        rw [frm]
        exact HandSPX.setFlight_upZ fly fun h4 lifted same2 => wpAny_throw (out _ _ ⟨at_, B, sG, pins, σG, HG, cls, dx, rfl, I0, below, (same.trans same1).trans same2, .inr (.inr (stk ▸ lifted)), free, oss, bare, w⟩)
      | @cons cn q s0 ss pa pb hs2 qs2 nm su _ ih =>
        intro w
        rcases w with ⟨hit, ex, w⟩
        have ty : PySem.W.Looks (model X.prog X.w) hL (typeOf (.ref at_)) cls := fun _ _ _ _ kp y => wpAny_typeOf_ref (kp _ _ get) (zc.1 ▸ y)
        refine wpAny_handleBy_cons (codeAny_handlers_test (names_run (IL.suite get dat free n1 n2) nm ((PySem.W.exm_one IL.kIn ty ex).here ?_))) (fun z => by cases z)
        cases hit with
        | false => exact ih w
        | true =>
          refine codeAny_handlers_suite_as (HandSPX.lands_againZ fly fun h4 fly4 same2 => ?_)
          rcases fly4.there with ⟨ob4, fl4, get4, zc4, dat4⟩
          have I4 : Inv X pins σG HG ⟨h4, s1.gens, s1.drawn, s1.toks, s1.os⟩ := I0.landed below fly4.1 ((same.trans same1).trans same2) oss bare
          refine store_ok (X := X.suite at_ ((at_, ob4) :: (X.pn ++ pins))) (v := .ref at_) (I4.suite get4 dat4 free n1 n2) nd hi (.inl lk) rfl (fun s5 I5 => ?_) (.inr lk)
          exact wpAny_mono ((su at_ ob4 cls dx _ zc4 ⟨fl4, dat4⟩).run [] s5 _ HG _ I5 (w at_ free)) (fun _ _ e => suite_end I.ok nd hi lk e) fun _ _ z => z.elim
    exact each cl want
end
end XS
set_option maxHeartbeats 400000
namespace Mir
open PySem PySem.Spec PyProof.Rows L2
/-! ## raise C(e) -/
@[simp] def mRaise (C : Addr) (f : Str) (ms : RE → Out (List D × RE)) : RE → Out Fl := fun r => (ms r).bnd fun p => match p.1 with
  | [d] => .exc ⟨C, [(f, d)]⟩ p.2.st
  | _ => .stuck
section
variable {K : KW} {E : XK}
theorem snds_raise {C : Addr} {f : Str} {ta : TA} {ms : RE → Out (List D × RE)} (h : SndA K E ta ms) : SndS K E (fun _ σ H => XS.tMkS C f ta σ H fun cls d H' => E cls d H') (mRaise C f ms) := fun c σ H W r Dd R w => by
  refine h c σ H W r _ R ((Wp.bnd w).mono (fun p q vs H1 W1 R1 s1 h1 => ?_) fun _ _ x => x)
  obtain ⟨ds, r1⟩ := p
  match ds, q, h1 with
  | [d], q, h1 =>
    simp only [RepL] at h1
    obtain ⟨v, us, rfl, hv, rfl⟩ := h1
    refine ⟨v, rfl, fun dx hd => ?_⟩
    have q' : XP K c E ⟨C, [(f, d)]⟩ r1.st := q
    refine q' dx (upd H1 dx (.xd [(f, v)])) W1 [(f, v)] (R1.zero.ext (Ext.alloc0 R1.gh hd)) upd_same ?_
    simp only [RepF]
    exact ⟨v, [], rfl, hv, rfl⟩
end
section
variable {X : Cx} {E : XK} {e : PySem.Expr} {es : List PySem.Expr} {x f : Str} {C : Addr} {p pos pos' : Pos} {ms as_ : RE → Out (List D × RE)}
theorem sm_raise {k : Nat} (tk : Takes X (fun cls d _ H => E cls d H)) (T : XS.SupC X.prog X.K X.mg C f) (hr : Room (k + 1) X.A) (hm : X.mg x = some (.ref C)) (h : AM X E [e] ms) (hc : X.calm = true := by rfl) (hg : Gl X x := by rfl)
    (hdb : (x == ("__debug__" : Str)) = false := by decide) (he : starEach [e] X.env = (false, eval e X.env) :: starEach [] X.env := by rfl) (hpl : (backTo pos (starEach [] X.env)).any (·.1) = false := by rfl) :
    SM X E (.Raise (some (.Call (.Name x p) [e] [] pos)) none pos') (mRaise C f ms) := by
  obtain ⟨ta, h1, h2⟩ := h
  exact ⟨_, ps_raise hc tk (XS.pmk_sup T hr hg hm h1 hdb he hpl), snds_raise h2⟩
end
/-! ## defs that may raise -/
structure FnR (P : Program) (w : World) (K : PySem.W.Frag) (mg : Str → Option Value) (base : Heap) (k : Nat) (x : Str) (n : Nat) (mf : Fn) : Prop where
  ex : ∃ f fd ps, FnOk P w K mg base (L2.CX P w) k f fd ps (spP (⟨K, w⟩ : KW) n mf) ∧ mg x = some (.ref f) ∧ PySem.W.keepIn K (.ref f) = true ∧ Binds K fd ps []
  hn : HasN n mf
theorem fnr_k {P : Program} {w : World} {K : PySem.W.Frag} {mg : Str → Option Value} {base : Heap} {x qual : Str} {st : Stmt} {f : Addr} {fd : FuncData} {N ps : List Str} {k : Nat} {mb : RE → Out Fl} (F : Fun K x qual st f fd) (S : FnScope N ps (defScope st)) (hg : mg x = some (.ref f)) (hbi : Binds K fd ps [])
    (hb : ∀ (cdv : Value) (A : Around) (outer : List PySem.Env) (s : Shared) (H : Hp) (E : XK), Room k (A.deeper (envOfC qual (defScope st) s.heap.objs.size f cdv)) →
      BM (cxOf (L2.CX P w) P w K mg base N qual (defScope st) f cdv A outer s H E) E (defBody st) mb) :
    FnR P w K mg base (k + 1) x ps.length (fnK ps.length N.length mb) := ⟨⟨f, fd, ps, fn_x F S hb, hg, F.kp, hbi⟩, hn_k⟩
/-- what the context of a raising def takes -/
theorem takes_def {P : Program} {w : World} {K : PySem.W.Frag} {mg : Str → Option Value} {base : Heap} {N : List Str} {qual : Str} {scope : Scope} {f : Addr} {cdv : Value} {A : Around} {outer : List PySem.Env} {s : Shared} {H : Hp} {E : XK} :
    Takes (cxOf (L2.CX P w) P w K mg base N qual scope f cdv A outer s H E) (fun cls d _ H => E cls d H) := takes_of rfl rfl rfl rfl
section
variable {X : Cx} {E : XK} {e : PySem.Expr} {es : List PySem.Expr} {x : Str} {p pos : Pos} {as_ : RE → Out (List D × RE)}
/-- a call that may raise out of the def around -/
theorem e1 {k j n : Nat} {mf : Fn} (F : FnR X.prog X.w X.K X.mg X.base k x n mf) (tk : Takes X (fun cls d _ H => E cls d H)) (hr : Room j X.A) (h : AM X E (e :: es) as_) (hj : k ≤ j := by decide) (hg : Gl X x := by rfl) (hdb : (x == ("__debug__" : Str)) = false := by decide)
    (he : starEach (e :: es) X.env = (false, eval e X.env) :: starEach es X.env := by rfl) (hpl : (backTo pos (starEach es X.env)).any (·.1) = false := by rfl) :
    EM X E (.Call (.Name x p) (e :: es) [] pos) (mCall mf [] as_) := by
  obtain ⟨f, fd, ps, F1, F2, F3, F4⟩ := F.ex
  exact em_call F1 F.hn (hr.mono hj) F2 F3 F4 .nil (fun _ => by simp only [RepL]) (passes_call tk fun _ _ _ _ z => z) h hg hdb he hpl
end
end Mir
set_option maxHeartbeats 400000
namespace Mir
open PySem PySem.Spec PyProof.Rows L2
/-! ## the body of a try: an exception leaves the frame as it stands -/
inductive OutX (α : Type) where
  | ok (a : α)
  | exc (x : Exn) (r : RE)
  | stuck
def WpX {α : Type} (o : OutX α) (P : α → Prop) (X : Exn → RE → Prop) : Prop := match o with
  | .ok a => P a
  | .exc x r => X x r
  | .stuck => False
def XPS (K : KW) (c : Fm) (W0 : Wd) (Wi : WX) (x : Exn) (r : RE) : Prop := ∀ σ1 dx H1 W1 us, RR K c σ1 H1 W1 r → Le W0 W1 → H1 dx = some (.xd us) → RepF K W1 x.fs us → Wi (.ref x.cls) (some dx) σ1 H1
theorem XPS.mono {K : KW} {c : Fm} {W0 W1 : Wd} {Wi : WX} {x : Exn} {r : RE} (h : XPS K c W0 Wi x r) (s : Le W0 W1) : XPS K c W1 Wi x r := fun σ1 dx H1 W2 us R l => h σ1 dx H1 W2 us R (s.trans l)
def SndX (K : KW) (Wi : WX) (ts : TS) (m : RE → OutX Fl) : Prop := ∀ (c : Fm) (σ : L2.St) (H : Hp) (W : Wd) (r : RE) (Dd : Ends), RR K c σ H W r →
  WpX (m r) (FlP K c W Dd) (XPS K c W Wi) → ts Dd σ H
def XM (Y : Cx) (Wi : WX) (s : Stmt) (m : RE → OutX Fl) : Prop := ∃ ts, PS Y s ts ∧ SndX Y.kw Wi ts m
def XB (Y : Cx) (Wi : WX) (s : List Stmt) (m : RE → OutX Fl) : Prop := ∃ ts, PSs Y s ts ∧ SndX Y.kw Wi ts m
@[simp] def liftX {α : Type} (o : Out α) : OutX α := match o with
  | .ok a => .ok a
  | _ => .stuck
@[simp] def xCall (mf : Fn) (as_ : RE → Out (List D × RE)) : RE → OutX (D × RE) := fun r => match as_ r with
  | .ok p => match mf p.1 p.2.st with
    | .ok q => .ok (q.1, ⟨p.2.s, q.2⟩)
    | .exc x st => .exc x ⟨p.2.s, st⟩
    | .stuck => .stuck
  | _ => .stuck
@[simp] def xDrop (m : RE → OutX (D × RE)) : RE → OutX Fl := fun r => match m r with
  | .ok p => .ok (.nx p.2)
  | .exc x r1 => .exc x r1
  | .stuck => .stuck
@[simp] def xSet (i : Nat) (m : RE → OutX (D × RE)) : RE → OutX Fl := fun r => match m r with
  | .ok p => .ok (.nx (p.2.put i (some p.1)))
  | .exc x r1 => .exc x r1
  | .stuck => .stuck
@[simp] def xSeq (a b : RE → OutX Fl) : RE → OutX Fl := fun r => match a r with
  | .ok (.nx r1) => b r1
  | .ok f => .ok f
  | .exc x r1 => .exc x r1
  | .stuck => .stuck
@[simp] def xIf (t : RE → Out (Bool × RE)) (a b : RE → OutX Fl) : RE → OutX Fl := fun r => match t r with
  | .ok p => if p.1 = true then a p.2 else b p.2
  | _ => .stuck
section
variable {Y : Cx} {Wi : WX} {e t : PySem.Expr} {es : List PySem.Expr} {s : Stmt} {ss ss2 : List Stmt} {x : Str} {p pos : Pos} {as_ : RE → Out (List D × RE)} {m : RE → OutX (D × RE)} {ma mb : RE → OutX Fl} {ms : RE → Out Fl} {mt : RE → Out (Bool × RE)}
theorem xb_one (h : XM Y Wi s ma) : XB Y Wi [s] ma := let ⟨_, h1, h2⟩ := h; ⟨_, pss_one h1, h2⟩
end
end Mir
set_option maxHeartbeats 400000
namespace Mir
open PySem PySem.Spec PyProof.Rows L2
/-! ## try .. except C as n: .. -/
abbrev Suite := RE → List (Str × D) → Out Fl
def hand : List (Addr × Suite) → Exn → RE → Out Fl
  | [], x, r => .exc x r.st
  | q :: qs, x, r => if x.cls = q.1 then noX (q.2 r x.fs) else hand qs x r
/-- Ks: the classes of the errors that may come -/
def mTry (i : Nat) (Ks : List Addr) (mb : RE → OutX Fl) (qs : List (Addr × Suite)) : RE → Out Fl := fun r => match mb r with
  | .ok f => .ok f
  | .exc x r1 => if x.cls ∈ Ks ∧ i < r1.s.length then hand qs x ⟨r1.s.set i none, r1.st⟩ else .stuck
  | .stuck => .stuck
def SuS (X : Cx) (i : Nat) (C : Addr) (ts : Addr → Value → Option Addr → TS) (ms : Suite) : Prop :=
  ∀ (c : Fm) (σ : L2.St) (H : Hp) (W W0 : Wd) (r : RE) (Dd : Ends) (at_ dx : Addr) (us : List (Str × V)) (fs : List (Str × D)), RR X.kw c σ H W r → Le W0 W → i < σ.length → σ[i]? = some (some (.ref at_)) → r.s[i]? = some none → H dx = some (.xd us) → RepF X.kw W fs us →
    Wp (ms r fs) (FlP X.kw c W0 Dd) (fun _ _ => False) → ts at_ (.ref C) (some dx) (XS.endsI i Dd) σ H
def SuM (X : Cx) (i : Nat) (C : Addr) (ss : List Stmt) (ms : Suite) : Prop :=
  ∃ ts : Addr → Value → Option Addr → TS, (∀ (at_ : Addr) (ob : Obj) (cl : Value) (dx : Option Addr) (pn : List (Addr × Obj)), Zc cl dx ob → (∃ fl, ob.data = .fields fl) → PSs (X.suite at_ ((at_, ob) :: pn)) ss (ts at_ cl dx)) ∧ SuS X i C ts ms
inductive ClsM (X : Cx) (nam : Str) (i : Nat) : List ExceptHandler → List (Addr × Suite) → Prop
  | nil : ClsM X nam i [] []
  | cons {cn : Str} {C : Addr} {ms : Suite} {s0 : Stmt} {ss : List Stmt} {pa pb : Pos} {hs : List ExceptHandler} {qs : List (Addr × Suite)} : Names X cn (.ref C) → SuM X i C (s0 :: ss) ms → ClsM X nam i hs qs →
      ClsM X nam i (.ExceptHandler (some (.Name cn pa)) (some nam) (s0 :: ss) pb :: hs) ((C, ms) :: qs)
/-- the library's list of clauses, beside the mirrors' -/
inductive Both (X : Cx) (i : Nat) : List XS.ClT → List (Addr × Suite) → Prop
  | nil : Both X i [] []
  | cons {C : Addr} {ts : Addr → Value → Option Addr → TS} {ms : Suite} {ls : List XS.ClT} {qs : List (Addr × Suite)} : SuS X i C ts ms → Both X i ls qs → Both X i ((.ref C, ts) :: ls) ((C, ms) :: qs)
theorem ClsM.both {X : Cx} {nam : Str} {i : Nat} {hs : List ExceptHandler} {qs : List (Addr × Suite)} (h : ClsM X nam i hs qs) : ∃ ls, XS.ClsOk X nam hs ls ∧ Both X i ls qs := by
  induction h with
  | nil => exact ⟨[], .nil, .nil⟩
  | @cons cn C ms s0 ss pa pb hs qs hn hs1 _ ih =>
    obtain ⟨ls, l1, l2⟩ := ih
    obtain ⟨ts, t1, t2⟩ := hs1
    exact ⟨(.ref C, ts) :: ls, .cons hn t1 l1, .cons t2 l2⟩
section
variable {X : Cx} {E : XK} {nam : Str} {i : Nat} {bd : List Stmt} {h0 : ExceptHandler} {hs : List ExceptHandler} {qs : List (Addr × Suite)} {pos : Pos} {mb : RE → OutX Fl}
/-- which of the classes catches which -/
def Tells (K : PySem.W.Frag) (Ks : List Addr) (qs : List (Addr × Suite)) : Prop := ∀ A ∈ Ks, ∀ q ∈ qs, PySem.W.exmOne K (.ref A) (.ref q.1) = some (decide (A = q.1))
theorem hand_ok {c : Fm} {W0 : Wd} {Dd : Ends} {x : Exn} {Ks : List Addr} (hk : x.cls ∈ Ks) : ∀ {ls : List XS.ClT} {qs : List (Addr × Suite)}, Both X i ls qs → Tells X.K Ks qs → ∀ {r1 : RE}, i < r1.s.length →
    Wp (hand qs x ⟨r1.s.set i none, r1.st⟩) (FlP X.kw c W0 Dd) (XP X.kw c E) → XPS X.kw c W0 (XS.wNamed X.K i (fun cls d _ H => E cls d H) Dd ls) x r1
  | _, _, .nil, _, r1, hi, w => fun σ1 dx H1 W1 us R l hx hf => w dx H1 W1 us R.zero hx hf
  | _, _, .cons (C := C) (ts := ts) (ms := ms) (ls := ls) (qs := qs) su bo, ht, r1, hi, w => fun σ1 dx H1 W1 us R l hx hf => by
    refine ⟨decide (x.cls = C), ht _ hk _ List.mem_cons_self, ?_⟩
    unfold hand at w
    by_cases e : x.cls = C
    · rw [if_pos (decide_eq_true e)]
      simp only [if_pos e] at w
      intro at_ _
      have hl : i < σ1.length := by rw [R.len]; exact hi
      rw [e]
      refine su c _ H1 W1 W0 ⟨r1.s.set i none, r1.st⟩ Dd at_ dx us x.fs (R.drop (i := i)) l (by rw [List.length_set]; exact hl) (List.getElem?_set_self hl) (List.getElem?_set_self hi) hx hf ?_
      exact w.noX
    · rw [if_neg (by simpa using e)]
      simp only [if_neg e] at w
      exact hand_ok hk bo (fun A hA q hq => ht A hA q (List.mem_cons_of_mem _ hq)) hi w σ1 dx H1 W1 us R l hx hf
theorem sm_try {Ks : List Addr} (nd : X.N.Nodup) (tk : Takes X (fun cls d _ H => E cls d H)) (hb : ∀ (Wi : WX) (pn : List (Addr × Obj)) (xe : Value → Shared → Prop), Takes (X.tr pn xe) Wi → XB (X.tr pn xe) Wi bd mb) (hc : ClsM X nam i (h0 :: hs) qs) (ht : Tells X.K Ks qs)
    (stk : X.stack = X.env :: X.outer := by rfl) (frm : X.env.frame = some X.env.locals := by rfl) (hi : X.N[i]? = some nam := by rfl) (lk : X.env.kindOf nam = some .local := by rfl) :
    SM X E (.Try bd (h0 :: hs) [] [] pos) (mTry i Ks mb qs) := by
  obtain ⟨ls, l1, l2⟩ := hc.both
  refine ⟨_, XS.ps_try_named (i := i) (tb := fun W D σ H => ∃ c Wd r, RR X.kw c σ H Wd r ∧ WpX (mb r) (FlP X.kw c Wd D) (XPS X.kw c Wd W)) stk frm nd hi lk tk (fun W pn xe tk2 _ => ?_) l1, fun c σ H W r Dd R w => ?_⟩
  · obtain ⟨ts, h1, h2⟩ := hb W pn xe tk2
    exact ⟨fun pins s σ H D I ⟨c, Wd, r, R, w⟩ => h1.run pins s σ H D I (h2 c σ H Wd r D R w)⟩
  · refine ⟨c, W, r, R, ?_⟩
    unfold mTry at w
    cases em : mb r with
    | stuck => rw [em] at w; exact w
    | ok f => rw [em] at w; exact w
    | exc x r1 =>
      rw [em] at w
      simp only at w
      split at w
      · rename_i hk
        exact hand_ok hk.1 l2 ht hk.2 w
      · exact w.elim
end
end Mir
set_option maxHeartbeats 400000
namespace Mir
open PySem PySem.Spec PyProof.Rows L2
/-! ## the suites of the laws -/
@[simp] def sRetL (T f : Str) : Suite := fun r fs => match fs.lookup f with
  | some d => .ok (.rt (.lst [.str T, d]) r)
  | none => .stuck
section
variable {X : Cx} {i : Nat} {C : Addr} {nam T f : Str} {kk : Nat} {q1 q2 q3 q4 q5 : Pos}
/-- return [T, e.f] -/
theorem su_retL (TX : XfC X.K C) (hno : PySem.W.findIn X.K (.ref C) f = some none) (hN : X.N[i]? = some nam := by rfl) (hv : Vis X.env.scope nam := by first | exact Or.inl rfl | exact Or.inr (Or.inl rfl)) (hd : (nam == ("__debug__" : Str)) = false := by decide) (hcd : (nam == ("__classdict__" : Str)) = false := by decide)
    (hb : attributeBase (.Name nam q2) f X.env (eval (.Name nam q2) X.env) = eval (.Name nam q2) X.env := by rfl)
    (h1 : starEach [.Constant (.str T) kk q1, .Attribute (.Name nam q2) f q3] X.env = (false, eval (.Constant (.str T) kk q1) X.env) :: starEach [.Attribute (.Name nam q2) f q3] X.env := by rfl) (h2 : starEach [.Attribute (.Name nam q2) f q3] X.env = (false, eval (.Attribute (.Name nam q2) f q3) X.env) :: starEach [] X.env := by rfl) :
    SuM X i C [.Return (some (.List [.Constant (.str T) kk q1, .Attribute (.Name nam q2) f q3] q4)) q5] (sRetL T f) := by
  refine ⟨fun at_ cl dx => tRet (tLst (tCons (tC (.str T)) (tCons (tXf at_ cl dx C f (tVar i)) tNil))), fun at_ ob cl dx pn hz hf => ?_, ?_⟩
  · exact pss_one (ps_ret (pe_lst (pa_cons pe_str (pa_cons (pe_xf TX hno hz hf (pe_var (X := X.suite at_ ((at_, ob) :: pn)) hN hv hd hcd) hb) pa_nil h2) h1)))
  · intro c σ H W W0 r Dd at_ dx us fs R l hi hs hr hx hf w
    unfold sRetL at w
    cases el : fs.lookup f with
    | none => simp only [el] at w; exact w.elim
    | some d =>
      simp only [el] at w
      obtain ⟨v, hv1, hv2⟩ := repF_look hf el
      refine ⟨.ref at_, hs, rfl, rfl, dx, us, v, rfl, hx, hv1, ?_⟩
      refine ⟨by simp [sizeLine_eq], fun p hp => ?_⟩
      have rl : RepL X.kw W [.str T, d] [.str T, v] := by
        simp only [RepL]
        exact ⟨_, _, rfl, by simp only [RepD], _, _, rfl, hv2, rfl⟩
      obtain ⟨R2, fr⟩ := R.fresh (o := .lst [.str T, v]) (d := .lst [.str T, d]) hp ⟨p, _, rfl, upd_same, rl⟩
      obtain ⟨u, _, R3, rep, le⟩ := R2.freeze fr
      exact w (.ref p) σ _ _ R3 (l.trans le) rep
end
end Mir
namespace Mir
open PySem PySem.Spec PyProof.Rows L2
end Mir
set_option maxHeartbeats 1000000
set_option maxHeartbeats 4000000
set_option maxHeartbeats 1000000
namespace Mir
open PySem PySem.Spec PyProof.Rows L2
/-! ## dicts with keys of any depth: walked, listed, made -/
mutual
def ofNK : KN.NK → D
  | .none => .non
  | .num i => .int i
  | .text x => .str x
  | .tup ks => .tup (ofNKs ks)
def ofNKs : List KN.NK → List D
  | [] => []
  | k :: ks => ofNK k :: ofNKs ks
end
section
variable {K : KW} {E : XK} {c : Fm} {σ σ' : L2.St} {H H' : Hp} {W W' : Wd} {r r' : RE}
@[simp] def kvKeyT : KN.NK × D → D := fun kv => ofNK kv.1
@[simp] def kvValT : KN.NK × D → D := fun kv => kv.2
@[simp] def kvPairT : KN.NK × D → D := fun kv => .tup [ofNK kv.1, kv.2]
@[simp] def keysT : D → Option (List D)
  | .dct kvs => some (kvs.map kvKeyT)
  | _ => none
@[simp] def valsT : D → Option (List D)
  | .dct kvs => some (kvs.map kvValT)
  | _ => none
@[simp] def itemsT : D → Option (List D)
  | .dct kvs => some (kvs.map kvPairT)
  | _ => none
/-! list(d), list(d.values()), len(d) -/
@[simp] def dListT : D → Out D
  | .dct kvs => .ok (.lst (kvs.map kvKeyT))
  | _ => .stuck
@[simp] def dLenT : D → Out D
  | .dct kvs => .ok (.int kvs.length)
  | _ => .stuck
@[simp] def dListVT : D → Out D
  | .dct kvs => .ok (.lst (kvs.map kvValT))
  | _ => .stuck
/-! ### dict comprehensions -/
@[simp] def appT : List D → List (KN.NK × D) → Option (List (KN.NK × D))
  | [k, v], acc => if acc.length < 1000000 then (keyT k).map fun key => putD acc key v else none
  | _, _ => none
@[simp] def mDctOf (m : RE → Out (List (KN.NK × D) × RE)) : RE → Out (D × RE) := fun r => (m r).bnd fun p => .ok (.dct p.1, p.2)
/-! {k: v} -/
@[simp] def mDisp1T (mk mv : RE → Out (D × RE)) : RE → Out (D × RE) := fun r => (mk r).bnd fun k => (mv k.2).bnd fun v => match keyT k.1 with
  | some key => .ok (.dct [(key, v.1)], v.2)
  | none => .stuck
end
end Mir
set_option maxHeartbeats 400000
namespace Mir
open PySem PySem.Spec PyProof.Rows L2
section
variable {P : Program} {w : World} {K : PySem.W.Frag} {mg : Str → Option Value} {base : Heap}
theorem FnR.cut {k : Nat} {x : Str} {n : Nat} {mf : Fn} (F : FnR P w K mg base k x n mf) : FnR P w K mg base k x n (cutF mf) :=
  let ⟨f, fd, ps, h1, h2⟩ := F.ex; ⟨⟨f, fd, ps, h1.imp fun vs H Q E h => sp_cut h, h2⟩, hn_c F.hn⟩
/-- a def that lets nothing out -/
theorem fnOk_zero {k n : Nat} {f : Addr} {fd : FuncData} {ps : List Str} {mf : Fn} (F : FnOk P w K mg base (L2.CX P w) k f fd ps (spP (⟨K, w⟩ : KW) n mf)) : FnOk P w K mg base CX0 k f fd ps (spN (⟨K, w⟩ : KW) n (n0 mf)) := by
  have up : ∀ vs H Q E, spN (⟨K, w⟩ : KW) n (n0 mf) vs H Q E → spP (⟨K, w⟩ : KW) n mf vs H Q E0 := fun vs H Q E h => by
    obtain ⟨hl, ds, st, W, R, rep, wp⟩ := h
    exact ⟨hl, ds, st, W, R, rep, wp.noX⟩
  refine ⟨fun vs H Q E h => F.len vs H Q E0 (up vs H Q E h), fun A outer s H args us vs Q E hr he hb hv hs => ?_⟩
  refine codeAny_mono (F.run A outer s H args us vs Q E0 hr he hb hv (up vs H Q E hs)) fun r s' h => ?_
  cases r with
  | ok fl => cases fl <;> exact h
  | error u =>
    obtain ⟨_, _, _, _, _, _, _, _, _, _, _, _, z⟩ := (show L2.CX P w outer H s E0 u s' from h)
    exact z.elim
theorem FnR.zero {k : Nat} {x : Str} {n : Nat} {mf : Fn} (F : FnR P w K mg base k x n mf) : Fn0 P w K mg base k x n (n0 mf) :=
  let ⟨f, fd, ps, h1, h2⟩ := F.ex; ⟨⟨f, fd, ps, fnOk_zero h1, h2⟩, hn_0 F.hn, nxf_0⟩
end
/-! which clause takes which -/
def RowT (K : PySem.W.Frag) (A : Addr) (qs : List (Addr × Suite)) : Prop := ∀ q ∈ qs, PySem.W.exmOne K (.ref A) (.ref q.1) = some (decide (A = q.1))
theorem row_nil {K : PySem.W.Frag} {A : Addr} : RowT K A [] := fun _ h => by cases h
theorem row_hit {K : PySem.W.Frag} {A : Addr} {ms : Suite} {qs : List (Addr × Suite)} (h : PySem.W.exmOne K (.ref A) (.ref A) = some true) (k : RowT K A qs) : RowT K A ((A, ms) :: qs) := fun q hq => by
  rcases List.mem_cons.mp hq with rfl | hq
  · rw [h, decide_eq_true rfl]
  · exact k q hq
theorem tells_nil {K : PySem.W.Frag} {qs : List (Addr × Suite)} : Tells K [] qs := fun _ h => by cases h
theorem tells_cons {K : PySem.W.Frag} {A : Addr} {Ks : List Addr} {qs : List (Addr × Suite)} (h : RowT K A qs) (k : Tells K Ks qs) : Tells K (A :: Ks) qs := fun B hB => by
  rcases List.mem_cons.mp hB with rfl | hB
  · exact h
  · exact k B hB
end Mir
set_option maxHeartbeats 400000
namespace Mir
open PySem PySem.Spec PyProof.Rows L2
/-! ## C(..) whose __init__ may raise -/
/-- a def known by its address that may raise -/
structure FnAR (P : Program) (w : World) (K : PySem.W.Frag) (mg : Str → Option Value) (base : Heap) (k : Nat) (f : Addr) (n : Nat) (mf : Fn) : Prop where
  ex : ∃ fd ps, FnOk P w K mg base (L2.CX P w) k f fd ps (spP (⟨K, w⟩ : KW) n mf) ∧ Binds K fd ps []
  hn : HasN n mf
theorem fnar_k {P : Program} {w : World} {K : PySem.W.Frag} {mg : Str → Option Value} {base : Heap} {x qual : Str} {st : Stmt} {f : Addr} {fd : FuncData} {N ps : List Str} {k : Nat} {mb : RE → Out Fl} (F : Fun K x qual st f fd) (S : FnScope N ps (defScope st)) (hbi : Binds K fd ps [])
    (hb : ∀ (cdv : Value) (A : Around) (outer : List PySem.Env) (s : Shared) (H : Hp) (E : XK), Room k (A.deeper (envOfC qual (defScope st) s.heap.objs.size f cdv)) →
      BM (cxOf (L2.CX P w) P w K mg base N qual (defScope st) f cdv A outer s H E) E (defBody st) mb) :
    FnAR P w K mg base (k + 1) f ps.length (fnK ps.length N.length mb) := ⟨⟨fd, ps, fn_x F S hb, hbi⟩, hn_k⟩
end Mir
set_option maxHeartbeats 400000
namespace Mir
open PySem PySem.Spec PyProof.Rows L2
/-! ## xs.pop(i) -/
@[simp] def fPopAt : D → List D → Out (D × D)
  | .lst xs, [.int i] => if 0 ≤ i ∧ i < 1000000 then match xs[i.toNat]? with
      | some d => .ok (d, .lst (xs.eraseIdx i.toNat))
      | none => .stuck
    else .stuck
  | _, _ => .stuck
end Mir
set_option maxHeartbeats 400000
namespace Mir
open PySem PySem.Spec PyProof.Rows L2
/-! ## d.pop(k) -/
def rPopK : V → List V → Hp → VK → Prop := fun x vs H Q => ∃ (a : Addr) (kvs : List (Key × V)) (k : Key) (y : V), x = .ref a ∧ vs = [kV k] ∧ H a = some (.dK kvs) ∧ valV kvs k = some y ∧ Q y (upd H a (.dK (dropK kvs k)))
theorem mt_popK {X : Cx} : MtR X "dict.pop" rPopK := by
  intro pins s σ H x vs v us Q I rx rvs h
  obtain ⟨a, kvs, k, y, rfl, rfl, ha, hv, q⟩ := h
  cases rx
  obtain ⟨u, rfl, ru⟩ := Vals.one rvs
  exact d_pop I ha ru hv (.inl rfl) fun w' s' I' rw' => ⟨y, _, I', rw', q⟩
@[simp] def fPopK : D → List D → Out (D × D)
  | .dic kvs, [k] => match keyD k with
    | some key => match valD kvs key with
      | some y => .ok (y, .dic (dropD kvs key))
      | none => .stuck
    | none => .stuck
  | _, _ => .stuck
theorem nx_popK : NoXM fPopK := fun a b x st h => by
  unfold fPopK at h
  split at h
  · split at h
    · split at h <;> cases h
    · cases h
  · cases h
section
variable {K : KW}
theorem repK_drop {W : Wd} {k : Key} : ∀ {ds : List (Key × D)} {vs : List (Key × V)}, RepK K W ds vs → RepK K W (dropD ds k) (dropK vs k)
  | [], vs, h => by
    simp only [RepK] at h
    subst h
    simp only [dropD, dropK, List.filter_nil, RepK]
  | (j, d) :: ds, vs, h => by
    simp only [RepK] at h
    obtain ⟨v, us, rfl, hv, hl⟩ := h
    have ih := repK_drop (k := k) hl
    unfold dropD dropK at *
    by_cases e : j = k
    · rw [List.filter_cons_of_neg (by simp [e]), List.filter_cons_of_neg (by simp [e])]
      exact ih
    · rw [List.filter_cons_of_pos (by simp [e]), List.filter_cons_of_pos (by simp [e])]
      simp only [RepK]
      exact ⟨v, _, rfl, hv, ih⟩
theorem mut_popK : MutS K rPopK fPopK := fun a H W d res d' ds vs Q s ga ho hl e k => by
  unfold fPopK at e
  split at e
  · rename_i kvs y
    split at e
    · rename_i key ek
      split at e
      · rename_i w ev
        cases e
        obtain ⟨b, us, ea, ha, la⟩ := ho
        cases ea
        simp only [RepL] at hl
        obtain ⟨v, _, rfl, hv, rfl⟩ := hl
        have e1 := keyD_rep ek hv
        subst e1
        rcases repK_val (k := key) la with ⟨z, _⟩ | ⟨d1, v1, z1, z2, rep⟩
        · rw [z] at ev; cases ev
        · rw [z1] at ev
          cases ev
          exact ⟨a, us, key, v1, rfl, rfl, ha, z2, k _ v1 ⟨a, _, rfl, upd_same, repK_drop la⟩ rep⟩
      · cases e
    · cases e
  · cases e
end
section
variable {X : Cx} {E : XK} {a e : PySem.Expr} {pos : Pos} {ma oa : RE → Out (D × RE)}
theorem em_popK {apos : Pos} (ha : EM X E a ma) (h : EM X E e oa) (hs : starEach [e] X.env = (false, eval e X.env) :: starEach [] X.env := by rfl) (hbase : attributeBase a "pop" X.env (eval a X.env) = eval a X.env := by rfl)
    (hfew : ((backTo pos (starEach [e] X.env)).all (fun x => !x.1) && (backToKw pos (keywordEach [] X.env)).all (fun x => x.1.isSome)
      && decide ([e].length + ([] : List Keyword).length + (if ([] : List Keyword).isEmpty then 0 else 1) < 30)) = true := by rfl) (hline : (apos.endLine == pos.line) = true := by rfl) (hpl : (backTo pos (starEach [] X.env)).any (·.1) = false := by rfl) :
    EM X E (.Call (.Attribute a "pop" apos) [e] [] pos) (mMut ma "dict" fPopK (mCons oa mNil)) :=
  let ⟨_, h1, h2⟩ := h; let ⟨_, a1, a2⟩ := ha; ⟨_, pe_bm PySem.F.plainAttrs_dict PySem.F.slot_dict_pop PySem.F.type_dict_pop mt_popK a1 (pa_cons h1 pa_nil hs) hbase hfew hline hs hpl, snd_mut mut_popK nx_popK a2 (snd_cons h2 snd_nil)⟩
end
/-! ## xs.index(x), texts -/
@[simp] def dIdxS : D → D → Out D
  | .lst ds, .str x => match strsD ds with
    | some ss => if x ∈ ss then .ok (.int ((ss.idxOf x : Nat) : Int)) else .stuck
    | none => .stuck
  | _, _ => .stuck
@[simp] def mIdxS (me mx : RE → Out (D × RE)) : RE → Out (D × RE) := fun r => (me r).bnd fun x => match dr x.2.st x.1 with
  | some (.lst ds) => (mx x.2).bnd fun y => match dr y.2.st x.1 with
    | some dx => (dIdxS dx y.1).bnd fun d => .ok (d, y.2)
    | none => .stuck
  | _ => .stuck
end Mir
namespace Mir
open PySem L2
theorem isX_nil {K : PySem.W.Frag} {C : Addr} : ∀ D ∈ ([] : List Addr), IsX K C D := fun _ h => by cases h
end Mir
set_option maxHeartbeats 400000
namespace Mir
open PySem PySem.Spec PyProof.Rows L2
section
variable {X : Cx} {E : XK} {a b e : PySem.Expr} {pos p : Pos} {C : Addr} {Ds : List Addr} {ma mb m : RE → Out (D × RE)}
/-! ## == and != by an own __eq__, asked as a test -/
theorem tm_neX {k j : Nat} {mf : Fn} (T : EqC X.K C Ds) (F : EqO X.prog X.w X.K X.mg X.base k C mf) (hr : Room j X.A) (ha : EM X E a ma) (hb : EM X E b mb) (hj : k + 1 ≤ j := by decide) (hm : behindInMarks .NotEq b = false := by first | exact nomark _ | rfl) : TM X E (.Compare a [.NotEq] [b] pos) (mBool (mEqX C Ds true mf ma mb)) := by
  obtain ⟨_, a1, a2⟩ := ha
  obtain ⟨_, b1, b2⟩ := hb
  obtain ⟨g, h1, h2, h3⟩ := F.ex
  obtain ⟨fd, ps, F1, F2⟩ := h3.ex
  exact ⟨_, pt_cmpR (op_ownN (E := E0) F1 T.I.ins.hm h1 T.ne h2 F2 (hr.mono hj)) a1 b1 hm, snd_test (snd_ownX T.I T.D T.ty h3.nx a2 b2)⟩
end
end Mir
set_option maxHeartbeats 400000
namespace PySem.W
open PySem PySem.Calls PyProof.Rows Builtin
end PySem.W
namespace Mir
open PySem PySem.Spec PyProof.Rows L2
def rLenO (C : Addr) (sp : Sp) : List V → Hp → VK → Prop := fun xs H Q => ∃ a dx fs, xs = [.ref a] ∧ H a = some (.ins C dx fs) ∧ sp [.ref a] H (fun v H' => ∃ n : Int, v = .int n ∧ 0 ≤ n ∧ n ≤ 1000000 ∧ Q (.int n) H') E0
section
variable {X : Cx} {n : Nat} {C f : Addr} {fd : FuncData} {ps : List Str} {sp : Sp} {T : String}
theorem cr_lenO (F : FnOk X.prog X.w X.K X.mg X.base CX0 n f fd ps sp) (hs : PySem.W.findIn X.K (.ref C) "__len__" = some (some (.ref f))) (hf : PySem.W.isFn X.K (.ref f) = true) (hb : Binds X.K fd ps []) (hr : Room (n + 1) X.A) : CallR X (.builtin "len") (rLenO C sp) := by
  intro pins s σ H xs us Q I r h
  obtain ⟨a, dx, fs, rfl, ha, hsp⟩ := h
  obtain ⟨u, rfl, hu⟩ := vals1 r
  obtain rfl : u = Value.ref a := hu
  obtain ⟨mA, J, _⟩ := ins_get I.hok ha
  obtain ⟨od, J, _⟩ := J.look
  obtain ⟨m, hF⟩ := I.fr
  refine PySem.W.len_K hF I.ok.mod.kin J hs hf ?_
  refine wpAny_mono (run_in1 (vs := [V.ref a]) F hr hb I (.cons rfl .nil) hsp) (fun r s' hq => ?_) fun _ _ z => z
  obtain ⟨z, H', I', rz, n, rfl, n0, n1, q⟩ := hq
  obtain ⟨t, rfl⟩ : ∃ t, r = Value.int n t := rz
  exact ⟨⟨n0, by omega⟩, .int n, H', I'.tok _, ⟨_, rfl⟩, q⟩
end
end Mir
set_option maxHeartbeats 400000
namespace Mir
open PySem PySem.Spec PyProof.Rows L2
/-! ## operators of an own class with a built-in value; len -/
@[simp] def mOrT (C : Addr) (Ts : List String) (mf : Fn) (ma mb : RE → Out (D × RE)) : RE → Out (D × RE) := fun r => (ma r).bnd fun p => (mb p.2).bnd fun q => match dr q.2.st p.1, dr q.2.st q.1 with
  | some (.ins A _), some e => match tyName e with
    | some T => if A = C ∧ T ∈ Ts then (mf [p.1, q.1] q.2.st).bnd fun z => if isRefD z.1 = true then .ok (z.1, ⟨q.2.s, z.2⟩) else .stuck else .stuck
    | none => .stuck
  | _, _ => .stuck
@[simp] def mRO (C : Addr) (mf : Fn) (ma mb : RE → Out (D × RE)) : RE → Out (D × RE) := fun r => (ma r).bnd fun p => (mb p.2).bnd fun q => match dr q.2.st p.1, dr q.2.st q.1 with
  | some (.dic _), some (.ins A _) => if A = C then (mf [q.1, p.1] q.2.st).bnd fun z => if isRefD z.1 = true then .ok (z.1, ⟨q.2.s, z.2⟩) else .stuck else .stuck
  | _, _ => .stuck
@[simp] def mAugO (i : Nat) (C : Addr) (mf : Fn) (me : RE → Out (D × RE)) : RE → Out Fl := fun r => match r.s[i]? with
  | some (some d) => (me r).bnd fun e => match dr e.2.st d with
    | some (.ins A _) => if A = C then (mf [d, e.1] e.2.st).bnd fun z => if isRefD z.1 = true then .ok (.nx (RE.put ⟨e.2.s, z.2⟩ i (some z.1))) else .stuck else .stuck
    | _ => .stuck
  | _ => .stuck
@[simp] def mLenO (C : Addr) (mf : Fn) (me : RE → Out (D × RE)) : RE → Out (D × RE) := fun r => (me r).bnd fun p => match dr p.2.st p.1 with
  | some (.ins A _) => if A = C then (mf [p.1] p.2.st).bnd fun z => match z.1 with
      | .int n => if 0 ≤ n ∧ n ≤ 1000000 then .ok (.int n, ⟨p.2.s, z.2⟩) else .stuck
      | _ => .stuck
    else .stuck
  | _ => .stuck
section
variable {K : KW} {E : XK} {C : Addr} {Ts : List String} {mf : Fn} {ta tb : TE} {ma mb : RE → Out (D × RE)}
theorem snd_lenO (nx : NoXF mf) (ha : Snd K E ta ma) : Snd K E (tCB (rLenO C (spN K 1 mf)) (tCons ta tNil)) (mLenO C mf ma) := fun c σ H W r Q R w => by
  refine ha c σ H W r _ R ((Wp.bnd w).mono (fun p q v1 H1 W1 R1 s1 h1 => ?_) fun _ _ x => x)
  split at q
  · rename_i A fsA e1
    split at q
    · rename_i hc
      subst hc
      obtain ⟨a, dx, us, rfl, hA, la⟩ := h1.at R1 e1
      have rl : RepL K W1 [p.1] [.ref a] := by
        simp only [RepL]
        exact ⟨_, _, rfl, h1, rfl⟩
      refine ⟨a, dx, us, rfl, hA, rfl, [p.1], p.2.st, W1, R1.entry, rl, ?_⟩
      cases e : mf [p.1] p.2.st with
      | ok d =>
        simp only [e, bnd_ok] at q
        intro v H' W' a' hv
        obtain ⟨d1, st1⟩ := d
        cases d1 <;> simp only at q <;> try exact q.elim
        rename_i n
        split at q
        · rename_i hn
          exact ⟨n, by simpa only [RepD] using hv, hn.1, hn.2, q _ H' W' (RR.call R1 a') (s1.trans a'.g0) repD_int⟩
        · exact q.elim
      | exc x st => exact absurd e (nx _ _ _ _)
      | stuck => simp only [e] at q; exact q.elim
    · exact q.elim
  · exact q.elim
end
section
variable {X : Cx} {E : XK} {a b e o : PySem.Expr} {pos p tpos apos : Pos} {C : Addr} {x : Str} {T : String} {ma mb mv mo : RE → Out (D × RE)}
theorem em_lenO {k j : Nat} {mf : Fn} (F : Spc X.prog X.w X.K X.mg X.base k C "__len__" 1 mf) (hr : Room j X.A) (hm : X.mg "len" = none) (h : EM X E e mv) (hj : k + 1 ≤ j := by decide) (hg : Gl X "len" := by rfl) (hs : starEach [e] X.env = (false, eval e X.env) :: starEach [] X.env := by rfl) (hpl : (backTo pos (starEach [] X.env)).any (·.1) = false := by rfl) : EM X E (.Call (.Name "len" p) [e] [] pos) (mLenO C mf mv) := by
  obtain ⟨_, h1, h2⟩ := h
  obtain ⟨g, g1, g2, g3, g4⟩ := F.ex
  obtain ⟨fd, ps, F1, F2⟩ := g4.ex
  exact ⟨_, pe_callB (cr_lenO F1 g1 g2 F2 (hr.mono hj)) hg hm PySem.boot_len (pa_cons h1 pa_nil hs) (by decide) (by decide) hs hpl, snd_lenO g4.nx h2⟩
end
end Mir
set_option maxHeartbeats 400000
namespace Mir
open PySem PySem.Spec PyProof.Rows L2
/-! ## d.update(e), e a frozen dict -/
@[simp] def mUpd (me mx : RE → Out (D × RE)) : RE → Out (D × RE) := fun r => (me r).bnd fun x => match x.1 with
  | .cell i => match x.2.st[i]? with
    | some d0 => if tyD d0 = some "dict" then (mx x.2).bnd fun p => match p.2.st[i]?, p.1 with
        | some (.dic xs), .dic ys => if xs.length + ys.length < 1000000 then .ok (.non, ⟨p.2.s, p.2.st.set i (.dic (mergeD xs ys))⟩) else .stuck
        | _, _ => .stuck
      else .stuck
    | none => .stuck
  | _ => .stuck
end Mir
set_option maxHeartbeats 400000
namespace Mir
open PySem PySem.Spec PyProof.Rows L2
/-! ## del d[k] -/
@[simp] def mDel (mo mk : RE → Out (D × RE)) : RE → Out Fl := fun r => (mo r).bnd fun o => (mk o.2).bnd fun k => match o.1 with
  | .cell i => match k.2.st[i]?, keyD k.1 with
    | some (.dic kvs), some key => if hasD kvs key = true then .ok (.nx ⟨k.2.s, k.2.st.set i (.dic (dropD kvs key))⟩) else .stuck
    | _, _ => .stuck
  | _ => .stuck
section
variable {K : KW} {E : XK}
theorem snds_del {to tk : TE} {mo mk : RE → Out (D × RE)} (ho : Snd K E to mo) (hk : Snd K E tk mk) : SndS K E (sDDel to tk) (mDel mo mk) := fun c σ H W r Dd R w => by
  refine ho c σ H W r _ R ((Wp.bnd w).mono (fun p q vo H1 W1 R1 s1 h1 => ?_) fun _ _ x => x)
  refine hk c σ H1 W1 p.2 _ R1 ((Wp.bnd q).mono (fun p2 q2 kv H2 W2 R2 s2 h2 => ?_) fun _ _ x => x)
  obtain ⟨od, or'⟩ := p
  cases od <;> simp only at q2 <;> try exact q2.elim
  rename_i i
  simp only [RepD] at h1
  obtain ⟨a, ha, rfl⟩ := h1
  have ha2 := s2.p i a ha
  split at q2
  · rename_i kvs key e1 ek
    split at q2
    · rename_i hh
      have ow := R2.ce i _ a e1 ha2
      obtain ⟨b, us, ea, hb, la⟩ := ow
      cases ea
      have e2 := keyD_rep ek h2
      subst e2
      have hv : (valV us key).isSome = true := by
        rcases repK_val (k := key) la with ⟨z, _⟩ | ⟨d1, v1, z1, z2, _⟩
        · exfalso
          unfold hasD at hh
          rw [List.any_eq_true] at hh
          obtain ⟨kv, hkv, e⟩ := hh
          unfold valD at z
          rw [Option.map_eq_none_iff, List.find?_eq_none] at z
          exact z kv hkv e
        · rw [z2]; rfl
      exact ⟨a, us, key, rfl, hb, rfl, hv, q2 σ _ W2 (R2.mut e1 ha2 (Own.nofrz (d := .dic kvs) rfl ⟨a, us, rfl, hb, la⟩) ⟨a, _, rfl, upd_same, repK_drop la⟩) (s1.trans s2)⟩
    · exact q2.elim
  · exact q2.elim
end
section
variable {X : Cx} {E : XK} {a o : PySem.Expr} {pos tpos : Pos} {mo mk : RE → Out (D × RE)}
theorem sm_del (ho : EM X E o mo) (hk : EM X E a mk) : SM X E (.Delete [.Subscript o a tpos] pos) (mDel mo mk) := by
  obtain ⟨_, h1, h2⟩ := ho
  obtain ⟨_, k1, k2⟩ := hk
  exact ⟨_, ps_ddel h1 k1, snds_del h2 k2⟩
end
end Mir
namespace Lm
open PySem L2 Mir
noncomputable def b_Watch_copy_2 (C : Cl) : RE → Out Fl :=
      (mRet (mCall (mkF C.Watch (k_Watch_init_2 C)) [] (mCons (mFld C.Watch (Str.ofString "table") (mVar 0)) mNil)))
noncomputable def k_Watch_copy_2 (C : Cl) : Fn := n0 (fnK 1 1 (b_Watch_copy_2 C))
noncomputable def b_Watch_len (C : Cl) : RE → Out Fl :=
      (mRet (mArgs (d1 dLenA) (mCons (mFld C.Watch (Str.ofString "table") (mVar 0)) mNil)))
noncomputable def k_Watch_len (C : Cl) : Fn := n0 (fnK 1 1 (b_Watch_len C))
noncomputable def f_Watch_len (C : Cl) : Fn := cutF (k_Watch_len C)
noncomputable def b_Watch_setitem_2 (C : Cl) : RE → Out Fl :=
      (mSeq (mIf (mTNot (mTruth (mCall (f_is_name C) [] (mCons (mVar 1) mNil))))
        mNoS
        mNext)
      (mSeq (mIf (mTAnd (mBool (mOp2 dIsNot (mVar 2) (mC .non))) (mTNot (mTruth (mCall (f_is_name C) [] (mCons (mVar 2) mNil)))))
        mNoS
        mNext)
      (mIf (mBool (mOp2 dIsNot (mVar 2) (mC .non)))
        (mPut (mFld C.Watch (Str.ofString "table") (mVar 0)) (mVar 1) (mVar 2))
        (mIf (mBool (mOp2 dIn (mVar 1) (mFld C.Watch (Str.ofString "table") (mVar 0))))
          (mDel (mFld C.Watch (Str.ofString "table") (mVar 0)) (mVar 1))
          mNext))))
noncomputable def k_Watch_setitem_2 (C : Cl) : Fn := n0 (fnK 3 3 (b_Watch_setitem_2 C))
end Lm
namespace Lm
open PySem L2 Mir
end Lm
set_option maxHeartbeats 400000
namespace Mir
open PySem PySem.Spec PyProof.Rows L2
/-! ## xs.extend(ys) -/
@[simp] def mExt (me mx : RE → Out (D × RE)) : RE → Out (D × RE) := fun r => (me r).bnd fun x => match x.1 with
  | .cell i => match x.2.st[i]? with
    | some d0 => if tyD d0 = some "list" then (mx x.2).bnd fun p => match p.2.st[i]?, dr p.2.st p.1 with
        | some (.lst xs), some (.lst ys) => if xs.length + ys.length < 1000000 then .ok (.non, ⟨p.2.s, p.2.st.set i (.lst (xs ++ ys))⟩) else .stuck
        | _, _ => .stuck
      else .stuck
    | none => .stuck
  | _ => .stuck
end Mir
set_option maxHeartbeats 400000
set_option maxHeartbeats 400000
namespace Mir
open PySem PySem.Spec PyProof.Rows L2
/-! ## y = {k: v for ..} -/
end Mir
namespace Lm
open PySem L2 Mir
end Lm
set_option maxHeartbeats 400000
namespace Mir
open PySem PySem.Spec PyProof.Rows L2
/-! ## return e.f == x -/
@[simp] def sRetEq (f : Str) (j : Nat) : Suite := fun r fs => match fs.lookup f, r.s[j]? with
  | some d, some (some e) => match eqTop r.st d e with
    | some b => .ok (.rt (.bl b) r)
    | none => .stuck
  | _, _ => .stuck
end Mir
namespace Lm
open PySem L2 Mir
noncomputable def l_law_deep_2_1 (C : Cl) : RE → Out Fl :=
      (mSet 1 (mCell (mLst (mCons (mVar 1) mNil))))
noncomputable def b_law_deep_2 (C : Cl) : RE → Out Fl :=
      (mSeq (mSet 1 (mLst mNil))
      (mSeq (mFor (mRng1 (mVar 0)) (stName 2) (l_law_deep_2_1 C))
      (mRet (mVar 1))))
noncomputable def k_law_deep_2 (C : Cl) : Fn := n0 (fnK 1 3 (b_law_deep_2 C))
end Lm
namespace Lm
open PySem L2 Mir
noncomputable def b_law_thing_3 (C : Cl) : RE → Out Fl :=
      (mSeq (mSet 1 (mCell (mLst (mCons (mC .non) (mCons (mC (.bl true)) (mCons (mC (.bl false)) (mCons (mOp1 dNeg (mC (.int 1))) (mCons (mC (.int 100)) (mCons (mOp2 dPow (mC (.int 10)) (mC (.int 40))) (mCons (mC (.str (Str.ofString ""))) (mCons (mC (.str (Str.ofString "a b"))) (mCons (mC (.str (Str.ofString "Abc"))) mNil))))))))))))
      (mSeq (mSet 1 (mCell (mOp2 dAddL (mVar 1) (mLst (mCons (mC (.str (Str.ofString "abcdefghijklm"))) (mCons (mLst mNil) (mCons (mCell mDnew) (mCons (mTup mNil) (mCons (mLst (mCons (mC (.str (Str.ofString "a"))) mNil)) (mCons (mTup (mCons (mC (.str (Str.ofString "a"))) mNil)) (mCons (mC (.str (Str.ofString "a\n"))) mNil)))))))))))
      (mSeq (mDrop (mMut (mVar 1) "list" fAppend (mCons (mCall (k_law_deep_2 C) [] (mCons (mC (.int 1980)) mNil)) mNil)))
      (mSeq (mDrop (mMut (mVar 1) "list" fAppend (mCons (mCell (mDisp (mPr (mC (.str (Str.ofString "a"))) (mC (.int 1)) mPr0))) mNil)))
      (mRet (mOp2 dIxA (mVar 1) (mOp2 dMod (mArgs (d1 dInt) (mCons (mVar 0) mNil)) (mArgs (d1 dLenA) (mCons (mVar 1) mNil)))))))))
noncomputable def k_law_thing_3 (C : Cl) : Fn := n0 (fnK 1 2 (b_law_thing_3 C))
end Lm
set_option maxHeartbeats 400000
namespace Mir
open PySem PySem.W PySem.Spec PyProof.Rows L2
/-! ## enumerate of any expression (a list or a tuple that is no path) -/
section
variable {K : KW} {E : XK}
@[simp] def asE : D → Out (List D) := fun d => match seqI d with
  | some ds => .ok (enumD 0 ds)
  | none => .stuck
end
end Mir
set_option maxHeartbeats 400000
namespace Mir
open PySem PySem.W PySem.Spec PyProof.Rows L2
/-! ## a < b of tuples of alike data -/
def ltOk (a b : D) : Bool := (toP a).canLay0 && (toP b).canLay0 && alike (toP a) (toP b) && decide (min (toP a).depth (toP b).depth ≤ 60)
@[simp] def dLtD : D → D → Out D := fun a b => match a, b with
  | .tup xs, .tup ys => if ltOk (.tup xs) (.tup ys) = true then .ok (.bl (dataLt (toP (.tup xs)) (toP (.tup ys)))) else .stuck
  | _, _ => dLt a b
end Mir
set_option maxHeartbeats 400000
namespace Mir
open PySem PySem.W PySem.Spec PyProof.Rows L2
/-! ## x in a tuple of data -/
def inTOk (x : D) (ds : List D) : Bool := SeqAt.shaped (toP x) && SeqAt.shaped (.tuple (toPs ds))
def inTD (x : D) (ds : List D) : Bool := (toPs ds).any fun z => PyData.eqv z (toP x)
@[simp] def dInT : D → D → Out D := fun a b => match b with
  | .tup ds => if inTOk a ds = true then .ok (.bl (inTD a ds)) else .stuck
  | _ => .stuck
@[simp] def dNotInT : D → D → Out D := fun a b => match b with
  | .tup ds => if inTOk a ds = true then .ok (.bl (!inTD a ds)) else .stuck
  | _ => .stuck
end Mir
set_option maxHeartbeats 400000
namespace Mir
open PySem PySem.Spec PyProof.Rows L2
/-! ## o.m(..) that may raise, in a try -/
/-- a method that may raise -/
structure MthR (P : Program) (w : World) (K : PySem.W.Frag) (mg : Str → Option Value) (base : Heap) (k : Nat) (C : Addr) (m : Str) (n : Nat) (mf : Fn) : Prop where
  ex : ∃ g, Cls K C ∧ Meth K C m g ∧ FnAR P w K mg base k g n mf
theorem FnAR.cut {P : Program} {w : World} {K : PySem.W.Frag} {mg : Str → Option Value} {base : Heap} {k n : Nat} {f : Addr} {mf : Fn} (F : FnAR P w K mg base k f n mf) : FnAR P w K mg base k f n (cutF mf) :=
  let ⟨fd, ps, h1, h2⟩ := F.ex; ⟨⟨fd, ps, h1.imp fun vs H Q E h => sp_cut h, h2⟩, hn_c F.hn⟩
theorem MthR.cut {P : Program} {w : World} {K : PySem.W.Frag} {mg : Str → Option Value} {base : Heap} {k n : Nat} {C : Addr} {m : Str} {mf : Fn} (h : MthR P w K mg base k C m n mf) : MthR P w K mg base k C m n (cutF mf) := let ⟨g, h1, h2, h3⟩ := h.ex; ⟨g, h1, h2, h3.cut⟩
@[simp] def xMeth (C : Addr) (mname : Str) (mf : Fn) (mo : RE → Out (D × RE)) (ms : RE → Out (List D × RE)) : RE → OutX (D × RE) := fun r => match mo r with
  | .ok p => match dr p.2.st p.1 with
    | some (.ins C' fs) => if C' = C ∧ (fs.lookup mname).isNone = true then match ms p.2 with
        | .ok q => match mf (p.1 :: q.1) q.2.st with
          | .ok z => .ok (z.1, ⟨q.2.s, z.2⟩)
          | .exc x st => .exc x ⟨q.2.s, st⟩
          | .stuck => .stuck
        | _ => .stuck
      else .stuck
    | _ => .stuck
  | _ => .stuck
end Mir
namespace Lm
open PySem L2 Mir
end Lm
set_option maxHeartbeats 400000
namespace Mir
open PySem PySem.Spec PyProof.Rows L2
/-! ## a raising def with a default -/
end Mir
namespace Lm
open PySem L2 Mir
end Lm
set_option maxHeartbeats 400000
namespace PySem.W
open PySem PyProof.Rows
section
variable {prog : Program} {w : World} {A : Around} {E : Value → Shared → Prop} {s : Shared} {K : Frag} {x C L f : Addr} {h₀ : Heap} {m : Str → Option Value} {ox : Obj} {od : Option Obj}
theorem bool_new_own (x : Addr) : MeetsIn prog w (Builtin.«bool.__new__» ⟨[.type "bool", .ref x], []⟩) (fun A R s => wpAny (model prog w) A.in1 (truthy (.ref x)) (fun b s' => R (.ok (.ret (.bool b))) s') (fun e s' => R (.error e) s') s) :=
  .of_wp fun A R s h => by
    have f1 := F.conv_sub_bool
    obtain ⟨hp, g, d, tk, os⟩ := s
    repeat (any_goals (first | assumption | (with_reducible refine wpAny_mono h (fun b s' hb => ?_) fun e s' he => he) | wp_step))
    all_goals first | exact ⟨_, rfl, hb⟩ | exact hb | skip
end
end PySem.W
namespace Mir
open PySem PySem.Spec PyProof.Rows L2
/-! ## bool(x), k in x by own specials; x[i] = v that may raise, in a try -/
section
variable {X : Cx} {k : Nat} {f : Addr} {fd : FuncData} {ps : List Str} {sp : Sp} {E : XK} {pins : List (Addr × Obj)} {σ : L2.St} {H : Hp} {s : Shared} {Q : VK} {us : List Value} {vs : List V}
theorem run_in2 (F : FnOk X.prog X.w X.K X.mg X.base CX0 k f fd ps sp) (hr : Room (k + 2) X.A) (hb : Binds X.K fd ps []) (I : Inv X pins σ H s) (r : Vals vs us) (h : sp vs H Q E) : wpAny (model X.prog X.w) X.A.in1.in1 (call (.ref f) us) (EP X pins σ Q) X.xe s := by
  have hl := F.len _ _ _ _ h
  have hl2 : us.length = ps.length := by rw [← r.length]; exact hl
  refine wpAny_call (codeAny_mono (F.run X.A.in1.in1 X.stack s H ⟨us, []⟩ us vs Q E hr.in1.in1 I.env0.in1.in1 (by
    have := hb s us I.kIn (by simpa using hl2)
    simpa using this) r h) fun r s' hq => ?_)
  cases r with
  | error e => exact hq.elim
  | ok fl =>
    cases fl with
    | ret u => exact I.after hq
    | next => exact False.elim hq
    | brk => exact False.elim hq
    | cont => exact False.elim hq
end
def rBoolO (C : Addr) (sp : Sp) : List V → Hp → VK → Prop := fun xs H Q => ∃ a dx fs, xs = [.ref a] ∧ H a = some (.ins C dx fs) ∧ sp [.ref a] H (fun v H' => ∃ b : Bool, v = .bl b ∧ Q (.bl b) H') E0
def rInO (C : Addr) (sp : Sp) : R2 := fun x y H Q => ∃ a dx fs, y = .ref a ∧ H a = some (.ins C dx fs) ∧ sp [.ref a, x] H (fun v H' => ∃ b : Bool, v = .bl b ∧ Q (.bl b) H') E0
section
variable {X : Cx} {n : Nat} {C f : Addr} {fd : FuncData} {ps : List Str} {sp : Sp}
theorem cr_boolO (F : FnOk X.prog X.w X.K X.mg X.base CX0 n f fd ps sp) (hs : PySem.W.findIn X.K (.ref C) "__bool__" = some (some (.ref f))) (hf : PySem.W.isFn X.K (.ref f) = true) (hb : Binds X.K fd ps []) (hr : Room (n + 2) X.A) : CallR X (.type "bool") (rBoolO C sp) := by
  intro pins s σ H xs us Q I r h
  obtain ⟨a, dx, fs, rfl, ha, hsp⟩ := h
  obtain ⟨u, rfl, hu⟩ := vals1 r
  obtain rfl : u = Value.ref a := hu
  obtain ⟨mA, J, _⟩ := ins_get I.hok ha
  obtain ⟨od, J, _⟩ := J.look
  obtain ⟨m, hF⟩ := I.fr
  refine callType_newIn PySem.F.called_bool PySem.F.newNe_bool (PySem.F.typeCall_bool_1 _) (PySem.F.newCall_bool_1 _) (fun obj => PySem.F.args_object_init_2 obj _) PySem.F.entry_bool_new (PySem.W.bool_new_own a) ?_
  refine PySem.W.truthy_K hF I.ok.mod.kin J hs hf ?_
  refine wpAny_mono (run_in2 (vs := [V.ref a]) F hr hb I (.cons rfl .nil) hsp) (fun r s' hq => ?_) fun _ _ z => z
  obtain ⟨z, H', I', rz, b, rfl, q⟩ := hq
  obtain rfl : r = Value.bool b := rz
  exact ⟨rfl, .bl b, H', I', rfl, q⟩
theorem op_inO (F : FnOk X.prog X.w X.K X.mg X.base CX0 n f fd ps sp) (hs : PySem.W.findIn X.K (.ref C) "__contains__" = some (some (.ref f))) (hf : PySem.W.isFn X.K (.ref f) = true) (hb : Binds X.K fd ps []) (hr : Room n X.A) : OpR X (compareOp .In) (rInO C sp) := by
  intro pins s σ H x y v u Q I rx ry hq
  obtain ⟨a, dx, fs, rfl, ha, hsp⟩ := hq
  obtain rfl : u = Value.ref a := ry
  obtain ⟨mA, J, _⟩ := ins_get I.hok ha
  obtain ⟨od, J, _⟩ := J.look
  obtain ⟨m, hF⟩ := I.fr
  refine PySem.W.in_K hF I.ok.mod.kin J hs hf ?_
  refine wpAny_mono (run_fn (vs := [V.ref a, x]) (dvs := []) (ds := []) F hr hb .nil pass0 I (.cons rfl (.cons rx .nil)) hsp) (fun r s' hq => ?_) fun _ _ z => z
  obtain ⟨z, H', I', rz, b, rfl, q⟩ := hq
  obtain rfl : r = Value.bool b := rz
  exact wpAny_pure ⟨.bl b, H', I', rfl, q⟩
end
@[simp] def mBoolO (C : Addr) (mf : Fn) (me : RE → Out (D × RE)) : RE → Out (D × RE) := fun r => (me r).bnd fun p => match dr p.2.st p.1 with
  | some (.ins A _) => if A = C then (mf [p.1] p.2.st).bnd fun z => match z.1 with
      | .bl n => .ok (.bl n, ⟨p.2.s, z.2⟩)
      | _ => .stuck
    else .stuck
  | _ => .stuck
@[simp] def mInO (C : Addr) (mf : Fn) (ma mb : RE → Out (D × RE)) : RE → Out (D × RE) := fun r => (ma r).bnd fun p => (mb p.2).bnd fun q => match dr q.2.st q.1 with
  | some (.ins A _) => if A = C then (mf [q.1, p.1] q.2.st).bnd fun z => match z.1 with
      | .bl n => .ok (.bl n, ⟨q.2.s, z.2⟩)
      | _ => .stuck
    else .stuck
  | _ => .stuck
section
variable {K : KW} {E : XK} {C : Addr} {mf : Fn} {ta tb : TE} {ma mb : RE → Out (D × RE)}
theorem snd_boolO (nx : NoXF mf) (ha : Snd K E ta ma) : Snd K E (tCB (rBoolO C (spN K 1 mf)) (tCons ta tNil)) (mBoolO C mf ma) := fun c σ H W r Q R w => by
  refine ha c σ H W r _ R ((Wp.bnd w).mono (fun p q v1 H1 W1 R1 s1 h1 => ?_) fun _ _ x => x)
  split at q
  · rename_i A fsA e1
    split at q
    · rename_i hc
      subst hc
      obtain ⟨a, dx, us, rfl, hA, la⟩ := h1.at R1 e1
      have rl : RepL K W1 [p.1] [.ref a] := by
        simp only [RepL]
        exact ⟨_, _, rfl, h1, rfl⟩
      refine ⟨a, dx, us, rfl, hA, rfl, [p.1], p.2.st, W1, R1.entry, rl, ?_⟩
      cases e : mf [p.1] p.2.st with
      | ok d =>
        simp only [e, bnd_ok] at q
        intro v H' W' a' hv
        obtain ⟨d1, st1⟩ := d
        cases d1 <;> simp only at q <;> try exact q.elim
        rename_i n
        exact ⟨n, by simpa only [RepD] using hv, q _ H' W' (RR.call R1 a') (s1.trans a'.g0) repD_bl⟩
      | exc x st => exact absurd e (nx _ _ _ _)
      | stuck => simp only [e] at q; exact q.elim
    · exact q.elim
  · exact q.elim
theorem snd_inO (nx : NoXF mf) (ha : Snd K E ta ma) (hb : Snd K E tb mb) : Snd K E (tOp (rInO C (spN K 2 mf)) ta tb) (mInO C mf ma mb) := fun c σ H W r Q R w => by
  refine ha c σ H W r _ R ((Wp.bnd w).mono (fun p q v1 H1 W1 R1 s1 h1 => ?_) fun _ _ x => x)
  refine hb c σ H1 W1 p.2 _ R1 ((Wp.bnd q).mono (fun p2 q2 v2 H2 W2 R2 s2 h2 => ?_) fun _ _ x => x)
  have h1' := h1.mono s2
  split at q2
  · rename_i A fsA e1
    split at q2
    · rename_i hc
      subst hc
      obtain ⟨a, dx, us, rfl, hA, la⟩ := h2.at R2 e1
      have rl : RepL K W2 [p2.1, p.1] [.ref a, v1] := by
        simp only [RepL]
        exact ⟨_, _, rfl, h2, _, _, rfl, h1', rfl⟩
      refine ⟨a, dx, us, rfl, hA, rfl, [p2.1, p.1], p2.2.st, W2, R2.entry, rl, ?_⟩
      cases e : mf [p2.1, p.1] p2.2.st with
      | ok d =>
        simp only [e, bnd_ok] at q2
        intro v H' W' a' hv
        obtain ⟨d1, st1⟩ := d
        cases d1 <;> simp only at q2 <;> try exact q2.elim
        rename_i n
        exact ⟨n, by simpa only [RepD] using hv, q2 _ H' W' (RR.call R2 a') ((s1.trans s2).trans a'.g0) repD_bl⟩
      | exc x st => exact absurd e (nx _ _ _ _)
      | stuck => simp only [e] at q2; exact q2.elim
    · exact q2.elim
  · exact q2.elim
end
section
variable {X : Cx} {E : XK} {a b e o : PySem.Expr} {pos p tpos apos : Pos} {C : Addr} {ma mb mv mo : RE → Out (D × RE)}
theorem em_boolO {k j : Nat} {mf : Fn} (F : Spc X.prog X.w X.K X.mg X.base k C "__bool__" 1 mf) (hr : Room j X.A) (hm : X.mg "bool" = none) (h : EM X E e mv) (hj : k + 2 ≤ j := by decide) (hg : Gl X "bool" := by rfl) (hs : starEach [e] X.env = (false, eval e X.env) :: starEach [] X.env := by rfl) (hpl : (backTo pos (starEach [] X.env)).any (·.1) = false := by rfl) : EM X E (.Call (.Name "bool" p) [e] [] pos) (mBoolO C mf mv) := by
  obtain ⟨_, h1, h2⟩ := h
  obtain ⟨g, g1, g2, g3, g4⟩ := F.ex
  obtain ⟨fd, ps, F1, F2⟩ := g4.ex
  exact ⟨_, pe_callTy (cr_boolO F1 g1 g2 F2 (hr.mono hj)) hg hm (by decide +kernel) (pa_cons h1 pa_nil hs) (by decide) (by decide) hs hpl, snd_boolO g4.nx h2⟩
theorem em_inO {k j : Nat} {mf : Fn} (F : Spc X.prog X.w X.K X.mg X.base k C "__contains__" 2 mf) (hr : Room j X.A) (ha : EM X E a ma) (hb : EM X E b mb) (hj : k ≤ j := by decide) (hm : behindInMarks .In b = false := by first | exact nomark _ | rfl) : EM X E (.Compare a [.In] [b] pos) (mInO C mf ma mb) := by
  obtain ⟨_, a1, a2⟩ := ha
  obtain ⟨_, b1, b2⟩ := hb
  obtain ⟨g, g1, g2, g3, g4⟩ := F.ex
  obtain ⟨fd, ps, F1, F2⟩ := g4.ex
  exact ⟨_, pe_cmpR (op_inO F1 g1 g2 F2 (hr.mono hj)) a1 b1 hm, snd_inO g4.nx a2 b2⟩
end
/-! x[i] = v that may raise -/
structure SpcR (P : Program) (w : World) (K : PySem.W.Frag) (mg : Str → Option Value) (base : Heap) (k : Nat) (C : Addr) (m : Str) (n : Nat) (mf : Fn) : Prop where
  ex : ∃ g, PySem.W.findIn K (.ref C) m = some (some (.ref g)) ∧ PySem.W.isFn K (.ref g) = true ∧ PySem.W.fnIn K g = true ∧ FnAR P w K mg base k g n mf
theorem SpcR.cut {P : Program} {w : World} {K : PySem.W.Frag} {mg : Str → Option Value} {base : Heap} {k n : Nat} {C : Addr} {m : Str} {mf : Fn} (h : SpcR P w K mg base k C m n mf) : SpcR P w K mg base k C m n (cutF mf) := let ⟨g, h1, h2, h3, h4⟩ := h.ex; ⟨g, h1, h2, h3, h4.cut⟩
def gSubAt (C : Addr) (sp : Sp) (E : L2.St → XK) (to ti : TE) : TG := fun v σ H Q => to σ H fun o H1 => ti σ H1 fun i H2 => ∃ a dx fs, o = .ref a ∧ H2 a = some (.ins C dx fs) ∧ sp [o, i, v] H2 (fun _ H3 => Q σ H3) (E σ)
section
variable {X : Cx} {CX : CXT} {k : Nat} {f C : Addr} {fd : FuncData} {ps : List Str} {sp : Sp} {E : L2.St → XK} {pos : Pos} {e o i : PySem.Expr} {ti to : TE}
theorem pg_subAt (F : FnOk X.prog X.w X.K X.mg X.base CX k f fd ps sp) (hq : PySem.W.noSeq X.K C = true) (hs : PySem.W.findIn X.K (.ref C) "__setitem__" = some (some (.ref f))) (hf : PySem.W.isFn X.K (.ref f) = true) (hb : Binds X.K fd ps []) (hr : Room k X.A) (pa : ∀ σ, PassesAt CX X σ (E σ)) (ho : PE X o to) (hi : PE X i ti)
    (ha : ∀ v, assign (.Subscript o i pos) X.env v = (do
      let ov ← holding [v] (eval o X.env)
      let iv ← holding [v, ov] (eval i X.env)
      standAt pos
      holding [v, ov, iv] (setItem ov iv v)
      release [v, ov, iv] []) := by intro _; rfl) : PG X (.Subscript o i pos) (gSubAt C sp E to ti) := by
  refine ⟨fun pins s σ H v u Q I r h => ?_⟩
  rw [ha]
  refine wpAny_bind (wpAny_holding (thn (ho.run pins s σ H _ I h) fun ov s1 ⟨x, H1, I1, r1, q1⟩ => ?_))
  refine wpAny_bind (wpAny_holding (thn (hi.run pins s1 σ H1 _ I1 q1) fun iv s2 ⟨y, H2, I2, r2, q2⟩ => ?_))
  obtain ⟨a, dx, fs, rfl, hA, hsp⟩ := q2
  obtain rfl : ov = Value.ref a := r1
  obtain ⟨mA, J, _⟩ := ins_get I2.hok hA
  obtain ⟨od, J, _⟩ := J.look
  have go : wpAny (model X.prog X.w) X.A (setItem (.ref a) iv u) (fun _ s3 => ∃ H3, Inv X pins σ H3 s3 ∧ Q σ H3) X.xe s2 := by
    refine PySem.W.setOwn_K I2.kIn J hq hs hf ?_
    refine wpAny_mono (run_fnS (us := [.ref a, iv, u]) (vs := [V.ref a, y, v]) F hr hb (pa σ) I2 (.cons rfl (.cons r2 (.cons r .nil))) hsp) (fun z s' hz => ?_) fun _ _ z => z
    obtain ⟨_, H', I', _, q⟩ := hz
    exact ⟨H', I', q⟩
  refine wpAny_bind (wpAny_standAt (wpAny_bind (wpAny_holding (thn go fun _ s3 ⟨H3, I3, q3⟩ => ?_))))
  exact wpAny_release ⟨σ, H3, I3, q3⟩
end
@[simp] def xSetO (C : Addr) (mf : Fn) (mo mk mv : RE → Out (D × RE)) : RE → OutX Fl := fun r => match mv r with
  | .ok v => match mo v.2 with
    | .ok o => match mk o.2 with
      | .ok k => match dr k.2.st o.1 with
        | some (.ins A _) => if A = C then match mf [o.1, k.1, v.1] k.2.st with
            | .ok z => .ok (.nx ⟨k.2.s, z.2⟩)
            | .exc x st => .exc x ⟨k.2.s, st⟩
            | .stuck => .stuck
          else .stuck
        | _ => .stuck
      | _ => .stuck
    | _ => .stuck
  | _ => .stuck
section
variable {Y : Cx} {Wi : WX} {k j : Nat} {C : Addr} {pos tpos : Pos} {e o a : PySem.Expr} {mf : Fn} {mo ma mv : RE → Out (D × RE)}
theorem xm_setO (S : SpK Y.K C) (F : SpcR Y.prog Y.w Y.K Y.mg Y.base k C "__setitem__" 3 mf) (tk : Takes Y Wi) (hr : Room j Y.A) (ho : EM Y E0 o mo) (hi : EM Y E0 a ma) (hv : EM Y E0 e mv) (hj : k ≤ j := by decide) (ha : ∀ v, assign (.Subscript o a tpos) Y.env v = (do
      let ov ← holding [v] (eval o Y.env)
      let iv ← holding [v, ov] (eval a Y.env)
      standAt tpos
      holding [v, ov, iv] (setItem ov iv v)
      release [v, ov, iv] []) := by intro _; rfl) (hs : swapsWithSole [.Subscript o a tpos] e pos.line Y.env = pure false := by rfl) (hw : swappedStores [.Subscript o a tpos] e Y.env = pure none := by rfl)
    (h1 : (assignEach [.Subscript o a tpos] Y.env).map (·.2) = [assign (.Subscript o a tpos) Y.env] := by rfl) : XM Y Wi (.Assign [.Subscript o a tpos] e pos) (xSetO C mf mo ma mv) := by
  obtain ⟨_, o1, o2⟩ := ho
  obtain ⟨_, i1, i2⟩ := hi
  obtain ⟨_, v1, v2⟩ := hv
  obtain ⟨g, g1, g2, g3, ⟨fd, ps, F1, F2⟩, hn⟩ := F.ex
  refine ⟨_, ps_asg v1 (pg_subAt F1 S.seq g1 g2 F2 (hr.mono hj) (fun σ => passAt tk σ) o1 i1 ha) hs hw h1, fun c σ H W r Dd R w => ?_⟩
  refine v2 c σ H W r _ R ?_
  unfold xSetO at w
  cases ev : mv r with
  | exc x st => rw [ev] at w; exact w.elim
  | stuck => rw [ev] at w; exact w.elim
  | ok p =>
    rw [ev] at w
    simp only at w
    intro v H1 W1 R1 s1 hv
    refine o2 c σ H1 W1 p.2 _ R1 ?_
    cases eo : mo p.2 with
    | exc x st => rw [eo] at w; exact w.elim
    | stuck => rw [eo] at w; exact w.elim
    | ok p2 =>
      rw [eo] at w
      simp only at w
      intro vo H2 W2 R2 s2 h2
      refine i2 c σ H2 W2 p2.2 _ R2 ?_
      cases ea : ma p2.2 with
      | exc x st => rw [ea] at w; exact w.elim
      | stuck => rw [ea] at w; exact w.elim
      | ok p3 =>
        rw [ea] at w
        simp only at w
        intro kv H3 W3 R3 s3 h3
        have h1' := hv.mono (s2.trans s3)
        have h2' := h2.mono s3
        split at w
        · rename_i A fsA e1
          split at w
          · rename_i hc
            subst hc
            obtain ⟨b, dx, us, rfl, hA, la⟩ := h2'.at R3 e1
            have rl : RepL Y.kw W3 [p2.1, p3.1, p.1] [.ref b, kv, v] := by
              simp only [RepL]
              exact ⟨_, _, rfl, h2', _, _, rfl, h3, _, _, rfl, h1', rfl⟩
            refine ⟨b, dx, us, rfl, hA, rfl, [p2.1, p3.1, p.1], p3.2.st, W3, R3.entry, rl, ?_⟩
            cases em : mf [p2.1, p3.1, p.1] p3.2.st with
            | stuck => simp only [em] at w; exact w.elim
            | ok d =>
              simp only [em] at w
              exact fun v H' W' a' hv => w σ H' W' (RR.call R3 a') (((s1.trans s2).trans s3).trans a'.g0)
            | exc x st =>
              simp only [em] at w
              exact fun dx H4 W4 us a hx hf => w σ dx H4 W4 us (RR.call R3 a) (((s1.trans s2).trans s3).trans a.g0) hx hf
          · exact w.elim
        · exact w.elim
end
end Mir
set_option maxHeartbeats 400000
/-! a built-in thing != an own instance: the own __eq__ is asked -/
namespace PySem.W
open PySem PyProof.Rows SeqAt
section
variable {prog : Program} {w : World} {A : Around} {E : Value → Shared → Prop} {s : Shared} {K : Frag} {x C L f dx : Addr} {h₀ : Heap} {m : Str → Option Value} {ox : Obj} {od : Option Obj} {T : String}
theorem isInst_own {M : Model} {Q : Bool → Shared → Prop} (X : K.In s.heap) (I : InstAt s.heap x ox C od) (hsub : subIn K (.ref C) (.type T) = some false) (h : Q false s) : wpAny M A (isInstance (.ref x) (.type T)) Q E s :=
  wpAny_bind (I.type.here ((looks_subIn X hsub).here h))
/-- what is asked of an own instance -/
def OwnAt (K : Frag) (C : Addr) (x : Addr) (s : Shared) : Prop := K.In s.heap ∧ ∃ dx od, InstAt s.heap x (instObj C dx) C od
theorem ne_int (b : Int) (u : Tok) : MeetsIn prog w (Builtin.«int.__ne__» ⟨[.int b u, .ref x], []⟩) (fun _ R s => (∃ C K, OwnAt K C x s) ∧ R (.ok (.ret .notImplemented)) s) :=
  .of_wp fun A R s h => by
    obtain ⟨hp, g, d, t, os⟩ := s
    obtain ⟨⟨C, K, X, dx, od, I⟩, h⟩ := h
    have hl := I.at_
    wp_walk using wpAny_load hl
    exact ⟨_, rfl, h⟩
theorem ne_bool (b : Bool) : MeetsIn prog w (Builtin.«int.__ne__» ⟨[.bool b, .ref x], []⟩) (fun _ R s => (∃ C K, OwnAt K C x s) ∧ R (.ok (.ret .notImplemented)) s) :=
  .of_wp fun A R s h => by
    obtain ⟨hp, g, d, t, os⟩ := s
    obtain ⟨⟨C, K, X, dx, od, I⟩, h⟩ := h
    have hl := I.at_
    wp_walk using wpAny_load hl
    exact ⟨_, rfl, h⟩
theorem ne_str (b : Str) (u : Tok) : MeetsIn prog w (Builtin.«str.__ne__» ⟨[.str b u, .ref x], []⟩) (fun _ R s => (∃ C K, OwnAt K C x s) ∧ R (.ok (.ret .notImplemented)) s) :=
  .of_wp fun A R s h => by
    obtain ⟨hp, g, d, t, os⟩ := s
    obtain ⟨⟨C, K, X, dx, od, I⟩, h⟩ := h
    have hl := I.at_
    wp_walk using wpAny_load hl
    exact ⟨_, rfl, h⟩
theorem ne_list (l : Addr) (hsub : subIn K (.ref C) (.type "list") = some false) : MeetsIn prog w (Builtin.«list.__ne__» ⟨[.ref l, .ref x], []⟩) (fun _ R s => OwnAt K C x s ∧ R (.ok (.ret .notImplemented)) s) :=
  .of_wp fun A R s h => by
    obtain ⟨hp, g, d, t, os⟩ := s
    obtain ⟨⟨X, dx, od, I⟩, h⟩ := h
    wp_walk using isInst_own X I hsub
    exact ⟨_, rfl, h⟩
theorem ne_tuple (l : Addr) (hsub : subIn K (.ref C) (.type "tuple") = some false) : MeetsIn prog w (Builtin.«tuple.__ne__» ⟨[.ref l, .ref x], []⟩) (fun _ R s => OwnAt K C x s ∧ R (.ok (.ret .notImplemented)) s) :=
  .of_wp fun A R s h => by
    obtain ⟨hp, g, d, t, os⟩ := s
    obtain ⟨⟨X, dx, od, I⟩, h⟩ := h
    wp_walk using isInst_own X I hsub
    exact ⟨_, rfl, h⟩
theorem ne_dict (d : Addr) (hsub : subIn K (.ref C) (.type "dict") = some false) : MeetsIn prog w (Builtin.«dict.__ne__» ⟨[.ref d, .ref x], []⟩) (fun _ R s => s.TypeIs (.ref d) "dict" ∧ OwnAt K C x s ∧ R (.ok (.ret .notImplemented)) s) :=
  .of_wp fun A R s h => by
    obtain ⟨hp, g, q, t, os⟩ := s
    obtain ⟨hd, ⟨X, dx, od, I⟩, h⟩ := h
    wp_walk using isInst_own X I hsub, wpAny_notOrdered_dict hd, wpAny_isInstance (b := true) hd (by rfl)
    exact ⟨_, rfl, h⟩
theorem tryDecl {v b : Value} {name : Str} {id : String} {Q : Option Value → Shared → Prop} (hT : s.TypeIs v T) (h : Slot T name id) (hc : wpAny (model prog w) A (call (.builtin id) [v, b]) (fun r s' => r = .notImplemented ∧ Q none s') E s) :
    wpAny (model prog w) A (tryCompare v name b) Q E s := wpAny_tryCompare_declines hT h hc
/-- v != own, the left one declining -/
theorem ne_RK {v : Value} {id : String} {Q : Value → Shared → Prop} (hu : A.units + 1 < cLine) (F : Fr h₀ L s.heap m) (X₀ : K.In h₀) (I : InstAt s.heap x ox C od) (hT : s.TypeIs v T) (hsub : subIn K (.ref C) (.type T) = some false)
    (hsl : Slot T (cmpInfo .NotEq).2.1 id) (hd : ∀ Q' : Value → Shared → Prop, Q' .notImplemented s → wpAny (model prog w) A (call (.builtin id) [v, .ref x]) Q' E s)
    (hm : mroIn K C (.type "object") = some true) (hs : findIn K (.ref C) "__eq__" = some (some (.ref f))) (hne : findIn K (.ref C) "__ne__" = some (some (.builtin "object.__ne__"))) (hf : isFn K (.ref f) = true)
    (h : wpAny (model prog w) A.in1 (call (.ref f) [.ref x, v]) (fun r s' => ∃ k, r = .bool k ∧ Q (.bool (!k)) s') E s) : wpAny (model prog w) A (richCompare .NotEq v (.ref x)) Q E s := by
  have X := X₀.keeps F.keep
  have hu0 : A.units < cLine := Nat.lt_of_succ_lt hu
  have one : wpAny (model prog w) A (tryCompare (.ref x) (cmpInfo .NotEq).2.2 v) (fun r s' => ∃ u, r = some u ∧ Q u s') E s := by
    unfold tryCompare
    refine wpAny_bind (ifBound_S X I hne slot_ne.bind (call_ne (by exact hu) X I hm hs hf (wpAny_mono h (fun u s' hv => ?_) fun _ _ e => e)))
    obtain ⟨k, rfl, q⟩ := hv
    exact ⟨k, rfl, wpAny_pure ⟨_, rfl, q⟩⟩
  unfold richCompare
  simp only [hT.oneThing_none]
  refine wpAny_holding (wpAny_bind (wpAny_cRoomFor hu0 ?_))
  refine wpAny_bind (wpAny_typeOf hT (wpAny_bind (I.type.here ?_)))
  rw [if_pos (show (Value.type T != Value.ref C) = true from by simp)]
  refine wpAny_bind ((looks_subIn X hsub).here ?_)
  simp only [Bool.false_eq_true, if_false, Bool.not_false, if_true]
  refine wpAny_bind (tryDecl hT hsl (hd _ ⟨rfl, ?_⟩))
  refine wpAny_bind (wpAny_mono one (fun r s' z => ?_) fun _ _ e => e)
  obtain ⟨u, rfl, hq⟩ := z
  exact wpAny_pure hq
end
end PySem.W
namespace Mir
open PySem PySem.Spec PyProof.Rows L2
/-- the class is no built-in one -/
structure NeR (K : PySem.W.Frag) (C : Addr) : Prop where
  sub : ∀ t ∈ ["NoneType", "bool", "int", "str", "tuple", "list", "dict"], PySem.W.subIn K (.ref C) (.type t) = some false
section
variable {X : Cx} {pins : List (Addr × Obj)} {σ : L2.St} {H : Hp} {s : Shared}
theorem typeIs_of {x : V} {u : Value} {T : String} (I : Inv X pins σ H s) (rx : RelV x u) (ty : TyX X.K H x (.type T)) : s.TypeIs u T := by
  cases ty with
  | base b =>
    cases b with
    | non => cases (show u = Value.none from rx); rfl
    | bl y => cases (show u = Value.bool y from rx); rfl
    | int i => obtain ⟨t, q⟩ := (show ∃ t, u = Value.int i t from rx); cases q; exact typeIs_int _ _ _
    | str y => obtain ⟨t, q⟩ := (show ∃ t, u = Value.str y t from rx); cases q; exact typeIs_str _ _ _
    | flt y => obtain ⟨t, q⟩ := (show ∃ t, u = Value.float y t from rx); cases q; rfl
    | @lst a xs ea =>
      cases (show u = Value.ref a from rx)
      obtain ⟨_, _, n, _, h1⟩ := (show ObjOk X.prog X.w H s.heap a (.lst xs) from I.hok a _ ea)
      exact ⟨_, h1, rfl⟩
    | @frz a ob xs ea =>
      cases (show u = Value.ref a from rx)
      obtain ⟨_, _, _, n, _, h1⟩ := (show ObjOk X.prog X.w H s.heap a (.frz ob (.lst xs)) from I.hok a _ ea)
      exact ⟨_, h1, rfl⟩
    | @tup a xs ea =>
      cases (show u = Value.ref a from rx)
      obtain ⟨_, _, _, o, h1, h2, _⟩ := (show ObjOk X.prog X.w H s.heap a (.tup xs) from I.hok a _ ea)
      exact ⟨o, h1, h2⟩
    | @dK a kvs ea =>
      cases (show u = Value.ref a from rx)
      obtain ⟨_, _, vs, _, o, es, ep, h1, h2, _⟩ := (show ObjOk X.prog X.w H s.heap a (.dK kvs) from I.hok a _ ea)
      exact ⟨o, h1, h2.1⟩
    | @dT a kvs ea =>
      cases (show u = Value.ref a from rx)
      obtain ⟨_, _, xs, _, o, es, ep, h1, h2, _⟩ := (show ObjOk X.prog X.w H s.heap a (.dT kvs) from I.hok a _ ea)
      exact ⟨o, h1, h2.1⟩
  | byt y => obtain ⟨t, q⟩ := (show ∃ t, u = Value.bytes y t from rx); cases q; rfl
  | @set a S n ea =>
    cases (show u = Value.ref a from rx)
    obtain ⟨o, _, _, _, e, ex, _⟩ := I.hok a _ ea
    exact ⟨o, e, ex.1⟩
  | @kList a o e c =>
    cases (show u = Value.ref a from rx)
    exact ⟨o, I.kIn a o e, c⟩
  | @kTuple a o e c =>
    cases (show u = Value.ref a from rx)
    exact ⟨o, I.kIn a o e, c⟩
  | @kDict a o e c =>
    cases (show u = Value.ref a from rx)
    exact ⟨o, I.kIn a o e, c⟩
  | @fTuple a ob xs ea =>
    cases (show u = Value.ref a from rx)
    obtain ⟨_, _, _, _, o, h1, h2, _⟩ := (show ObjOk X.prog X.w H s.heap a (.frz ob (.tup xs)) from I.hok a _ ea)
    exact ⟨o, h1, h2⟩
  | @fDict a ob kvs ea =>
    cases (show u = Value.ref a from rx)
    obtain ⟨_, _, _, vs, _, o, es, ep, h1, h2, _⟩ := (show ObjOk X.prog X.w H s.heap a (.frz ob (.dK kvs)) from I.hok a _ ea)
    exact ⟨o, h1, h2.1⟩
theorem shape_of {K : PySem.W.Frag} {x : V} {u : Value} {T : String} (rx : RelV x u) (ty : TyX K H x (.type T)) :
    (T = "NoneType" ∧ u = .none) ∨ (T = "bool" ∧ ∃ b, u = .bool b) ∨ (T = "int" ∧ ∃ i t, u = .int i t) ∨ (T = "str" ∧ ∃ y t, u = .str y t) ∨ T = "float" ∨ T = "bytes" ∨ T = "set" ∨ ((T = "list" ∨ T = "tuple" ∨ T = "dict") ∧ ∃ a, u = .ref a) := by
  generalize e : Value.type T = t at ty
  cases ty with
  | base b =>
    cases b with
    | non => cases e; exact .inl ⟨rfl, rx⟩
    | bl y => cases e; exact .inr (.inl ⟨rfl, y, rx⟩)
    | int i => cases e; obtain ⟨t, q⟩ := (show ∃ t, u = Value.int i t from rx); exact .inr (.inr (.inl ⟨rfl, i, t, q⟩))
    | str y => cases e; obtain ⟨t, q⟩ := (show ∃ t, u = Value.str y t from rx); exact .inr (.inr (.inr (.inl ⟨rfl, y, t, q⟩)))
    | flt y => cases e; exact .inr (.inr (.inr (.inr (.inl rfl))))
    | @lst a xs ea => cases e; exact .inr (.inr (.inr (.inr (.inr (.inr (.inr ⟨.inl rfl, a, rx⟩))))))
    | @frz a ob xs ea => cases e; exact .inr (.inr (.inr (.inr (.inr (.inr (.inr ⟨.inl rfl, a, rx⟩))))))
    | @tup a xs ea => cases e; exact .inr (.inr (.inr (.inr (.inr (.inr (.inr ⟨.inr (.inl rfl), a, rx⟩))))))
    | @dK a kvs ea => cases e; exact .inr (.inr (.inr (.inr (.inr (.inr (.inr ⟨.inr (.inr rfl), a, rx⟩))))))
    | @dT a kvs ea => cases e; exact .inr (.inr (.inr (.inr (.inr (.inr (.inr ⟨.inr (.inr rfl), a, rx⟩))))))
    | ins => cases e
  | byt y => cases e; exact .inr (.inr (.inr (.inr (.inr (.inl rfl)))))
  | @set a S n ea => cases e; exact .inr (.inr (.inr (.inr (.inr (.inr (.inl rfl))))))
  | @kList a o e' c => cases e; exact .inr (.inr (.inr (.inr (.inr (.inr (.inr ⟨.inl rfl, a, rx⟩))))))
  | @kTuple a o e' c => cases e; exact .inr (.inr (.inr (.inr (.inr (.inr (.inr ⟨.inr (.inl rfl), a, rx⟩))))))
  | @kDict a o e' c => cases e; exact .inr (.inr (.inr (.inr (.inr (.inr (.inr ⟨.inr (.inr rfl), a, rx⟩))))))
  | @fTuple a ob xs ea => cases e; exact .inr (.inr (.inr (.inr (.inr (.inr (.inr ⟨.inr (.inl rfl), a, rx⟩))))))
  | @fDict a ob kvs ea => cases e; exact .inr (.inr (.inr (.inr (.inr (.inr (.inr ⟨.inr (.inr rfl), a, rx⟩))))))
end
def rOwnR (K : PySem.W.Frag) (C : Addr) (sp : Sp) : R2 := fun x y H Q => ∃ a dx fs T, y = .ref a ∧ H a = some (.ins C dx fs) ∧ T ∈ ["NoneType", "bool", "int", "str", "tuple", "list", "dict"] ∧ TyX K H x (.type T) ∧ sp [y, x] H (fun v H' => ∃ k, v = .bl k ∧ Q (.bl (!k)) H') E0
section
variable {X : Cx} {n : Nat} {C f : Addr} {fd : FuncData} {ps : List Str} {sp : Sp}
theorem op_ownR (F : FnOk X.prog X.w X.K X.mg X.base CX0 n f fd ps sp) (hm : PySem.W.mroIn X.K C (.type "object") = some true) (hsub : NeR X.K C)
    (hs : PySem.W.findIn X.K (.ref C) "__eq__" = some (some (.ref f))) (hne : PySem.W.findIn X.K (.ref C) "__ne__" = some (some (.builtin "object.__ne__"))) (hf : PySem.W.isFn X.K (.ref f) = true) (hb : Binds X.K fd ps []) (hr : Room (n + 1) X.A) : OpR X (compareOp .NotEq) (rOwnR X.K C sp) := by
  intro pins s σ H x y v u Q I rx ry hq
  obtain ⟨a, dx, fs, T, rfl, ha, hT, ty, hsp⟩ := hq
  show wpAny (model X.prog X.w) X.A (richCompare .NotEq v u) (EP X pins σ Q) X.xe s
  obtain rfl : u = Value.ref a := ry
  have tis := typeIs_of I rx ty
  obtain ⟨mA, J, _⟩ := ins_get I.hok ha
  have J0 := J
  obtain ⟨od, J, _⟩ := J.look
  obtain ⟨m, hF⟩ := I.fr
  have ow : PySem.W.OwnAt X.K C a s := ⟨I.kIn, _, _, J⟩
  have hu : X.A.units + 1 < cLine := by have := hr.units; omega
  have body : wpAny (model X.prog X.w) X.A.in1 (call (.ref f) [.ref a, v]) (fun r s' => ∃ k, r = .bool k ∧ EP X pins σ Q (.bool (!k)) s') X.xe s := by
    refine wpAny_mono (run_in1 (vs := [V.ref a, x]) F hr hb I (.cons rfl (.cons rx .nil)) hsp) (fun r s' hq => ?_) fun _ _ z => z
    obtain ⟨z, H', I', rz, k, rfl, q⟩ := hq
    obtain rfl : r = Value.bool k := rz
    exact ⟨k, rfl, .bl (!k), H', I', rfl, q⟩
  have sub := hsub.sub T hT
  rcases shape_of rx ty with ⟨rfl, rfl⟩ | ⟨rfl, b, rfl⟩ | ⟨rfl, i, t, rfl⟩ | ⟨rfl, z, t, rfl⟩ | rfl | rfl | rfl | ⟨rfl | rfl | rfl, d, rfl⟩
  · exact PySem.W.ne_RK hu hF I.ok.mod.kin J tis sub PySem.F.slot_NoneType_ne (fun _ h => call_gives PySem.F.slot_NoneType_ne tis PySem.F.entry_NoneType_ne (PySem.F.args_NoneType_ne_2 _ _) (PySem.SeqAt.NoneType___ne___none_ref_0 a) h) hm hs hne hf body
  · exact PySem.W.ne_RK hu hF I.ok.mod.kin J tis sub PySem.F.slot_bool_ne (fun _ h => call_meetsIn PySem.F.slot_bool_ne tis PySem.F.entry_int_ne (PySem.F.args_int_ne_2 _ _) (PySem.W.ne_bool b) ⟨⟨_, _, ow⟩, h⟩) hm hs hne hf body
  · exact PySem.W.ne_RK hu hF I.ok.mod.kin J tis sub PySem.F.slot_int_ne (fun _ h => call_meetsIn PySem.F.slot_int_ne tis PySem.F.entry_int_ne (PySem.F.args_int_ne_2 _ _) (PySem.W.ne_int i t) ⟨⟨_, _, ow⟩, h⟩) hm hs hne hf body
  · exact PySem.W.ne_RK hu hF I.ok.mod.kin J tis sub PySem.F.slot_str_ne (fun _ h => call_meetsIn PySem.F.slot_str_ne tis PySem.F.entry_str_ne (PySem.F.args_str_ne_2 _ _) (PySem.W.ne_str z t) ⟨⟨_, _, ow⟩, h⟩) hm hs hne hf body
  · exact absurd hT (by decide)
  · exact absurd hT (by decide)
  · exact absurd hT (by decide)
  · exact PySem.W.ne_RK hu hF I.ok.mod.kin J tis sub PySem.F.slot_list_ne (fun _ h => call_meetsIn PySem.F.slot_list_ne tis PySem.F.entry_list_ne (PySem.F.args_list_ne_2 _ _) (PySem.W.ne_list d sub) ⟨ow, h⟩) hm hs hne hf body
  · exact PySem.W.ne_RK hu hF I.ok.mod.kin J tis sub PySem.F.slot_tuple_ne (fun _ h => call_meetsIn PySem.F.slot_tuple_ne tis PySem.F.entry_tuple_ne (PySem.F.args_tuple_ne_2 _ _) (PySem.W.ne_tuple d sub) ⟨ow, h⟩) hm hs hne hf body
  · exact PySem.W.ne_RK hu hF I.ok.mod.kin J tis sub PySem.F.slot_dict_ne (fun _ h => call_meetsIn PySem.F.slot_dict_ne tis PySem.F.entry_dict_ne (PySem.F.args_dict_ne_2 _ _) (PySem.W.ne_dict d sub) ⟨tis, ow, h⟩) hm hs hne hf body
end
@[simp] def mNeR (C : Addr) (mf : Fn) (ma mb : RE → Out (D × RE)) : RE → Out (D × RE) := fun r => (ma r).bnd fun p => (mb p.2).bnd fun q => match dr q.2.st p.1, dr q.2.st q.1 with
  | some d, some (.ins A _) => if A = C ∧ (tyName d).isSome = true then (mf [q.1, p.1] q.2.st).bnd fun z => match z.1 with
      | .bl k => .ok (.bl (!k), ⟨q.2.s, z.2⟩)
      | _ => .stuck
    else .stuck
  | _, _ => .stuck
section
variable {K : KW} {E : XK} {C : Addr} {mf : Fn} {ta tb : TE} {ma mb : RE → Out (D × RE)}
theorem snd_neR (nx : NoXF mf) (ha : Snd K E ta ma) (hb : Snd K E tb mb) : Snd K E (tOp (rOwnR K C (spN K 2 mf)) ta tb) (mNeR C mf ma mb) := fun c σ H W r Q R w => by
  refine ha c σ H W r _ R ((Wp.bnd w).mono (fun p q v1 H1 W1 R1 s1 h1 => ?_) fun _ _ x => x)
  refine hb c σ H1 W1 p.2 _ R1 ((Wp.bnd q).mono (fun p2 q2 v2 H2 W2 R2 s2 h2 => ?_) fun _ _ x => x)
  have h1' := h1.mono s2
  split at q2
  · rename_i d A fsA e1 e2
    split at q2
    · rename_i hc
      obtain ⟨rfl, hk⟩ := hc
      obtain ⟨t, ht⟩ := Option.isSome_iff_exists.mp hk
      obtain ⟨a, dx, us, rfl, hA, la⟩ := h2.at R2 e2
      have ty := tyName_ok R2.gh ht (h1'.at R2 e1)
      have rl : RepL K W2 [p2.1, p.1] [.ref a, v1] := by
        simp only [RepL]
        exact ⟨_, _, rfl, h2, _, _, rfl, h1', rfl⟩
      refine ⟨a, dx, us, t, rfl, hA, tyName_mem ht, ty, rfl, [p2.1, p.1], p2.2.st, W2, R2.entry, rl, ?_⟩
      cases e : mf [p2.1, p.1] p2.2.st with
      | ok d =>
        simp only [e, bnd_ok] at q2
        intro v H' W' a' hv
        obtain ⟨d1, st1⟩ := d
        cases d1 <;> simp only at q2 <;> try exact q2.elim
        rename_i k
        exact ⟨k, by simpa only [RepD] using hv, q2 _ H' W' (RR.call R2 a') ((s1.trans s2).trans a'.g0) repD_bl⟩
      | exc x st => exact absurd e (nx _ _ _ _)
      | stuck => simp only [e] at q2; exact q2.elim
    · exact q2.elim
  · exact q2.elim
end
section
variable {X : Cx} {E : XK} {a b : PySem.Expr} {pos : Pos} {C : Addr} {Ds : List Addr} {ma mb : RE → Out (D × RE)}
theorem em_neR {k j : Nat} {mf : Fn} (T : EqC X.K C Ds) (N : NeR X.K C) (F : EqO X.prog X.w X.K X.mg X.base k C mf) (hr : Room j X.A) (ha : EM X E a ma) (hb : EM X E b mb) (hj : k + 1 ≤ j := by decide) (hm : behindInMarks .NotEq b = false := by first | exact nomark _ | rfl) : EM X E (.Compare a [.NotEq] [b] pos) (mNeR C mf ma mb) := by
  obtain ⟨_, a1, a2⟩ := ha
  obtain ⟨_, b1, b2⟩ := hb
  obtain ⟨g, h1, h2, h3⟩ := F.ex
  obtain ⟨fd, ps, F1, F2⟩ := h3.ex
  exact ⟨_, pe_cmpR (op_ownR F1 T.I.ins.hm N h1 T.ne h2 F2 (hr.mono hj)) a1 b1 hm, snd_neR h3.nx a2 b2⟩
end
end Mir
namespace Lm
open PySem L2 Mir
noncomputable def b_Watch_words_2 (C : Cl) : RE → Out Fl :=
      (mRet (mCell (mArgs (d1 dSort) (mCons (mArgs (d1 dListD) (mCons (mFld C.Watch (Str.ofString "table") (mVar 0)) mNil)) mNil))))
noncomputable def k_Watch_words_2 (C : Cl) : Fn := n0 (fnK 1 1 (b_Watch_words_2 C))
noncomputable def l_Watch_sights_2_1 (C : Cl) : RE → Out (Bool × RE) :=
      mYes
noncomputable def l_Watch_sights_2_2 (C : Cl) : RE → Out (List D × RE) :=
      (mCons (mVar 1) mNil)
noncomputable def b_Watch_sights_2 (C : Cl) : RE → Out Fl :=
      (mRet (mCell (mSortK (mCGW valsI [1] (mFld C.Watch (Str.ofString "table") (mVar 0)) (stName 1) (l_Watch_sights_2_1 C) (l_Watch_sights_2_2 C) appK []))))
noncomputable def k_Watch_sights_2 (C : Cl) : Fn := n0 (fnK 1 2 (b_Watch_sights_2 C))
noncomputable def b_Watch_eq_2 (C : Cl) : RE → Out Fl :=
      (mRet (mAnd (mIsOX C.Watch [] (mVar 1)) (mOp2 dEqK (mFld C.Watch (Str.ofString "table") (mVar 0)) (mFld C.Watch (Str.ofString "table") (mVar 1)))))
noncomputable def k_Watch_eq_2 (C : Cl) : Fn := n0 (fnK 2 2 (b_Watch_eq_2 C))
noncomputable def f_Watch_eq_2 (C : Cl) : Fn := cutF (k_Watch_eq_2 C)
noncomputable def b_Watch_bool (C : Cl) : RE → Out Fl :=
      (mRet (mOp2 dGt (mArgs (d1 dLenA) (mCons (mFld C.Watch (Str.ofString "table") (mVar 0)) mNil)) (mC (.int 0))))
noncomputable def k_Watch_bool (C : Cl) : Fn := n0 (fnK 1 1 (b_Watch_bool C))
noncomputable def f_Watch_bool (C : Cl) : Fn := cutF (k_Watch_bool C)
noncomputable def b_Watch_contains (C : Cl) : RE → Out Fl :=
      (mRet (mAnd (mArgs (d2 dIsi) (mCons (mVar 1) (mCons (mC (.ty "str")) mNil))) (mOp2 dIn (mVar 1) (mFld C.Watch (Str.ofString "table") (mVar 0)))))
noncomputable def k_Watch_contains (C : Cl) : Fn := n0 (fnK 2 2 (b_Watch_contains C))
noncomputable def f_Watch_contains (C : Cl) : Fn := cutF (k_Watch_contains C)
noncomputable def b_Watch_setitem_x (C : Cl) : RE → Out Fl :=
      (mSeq (mIf (mTNot (mTruth (mCall (f_is_name C) [] (mCons (mVar 1) mNil))))
        (mRaise C.BadWord (Str.ofString "value") (mCons (mVar 1) mNil))
        mNext)
      (mSeq (mIf (mTAnd (mBool (mOp2 dIsNot (mVar 2) (mC .non))) (mTNot (mTruth (mCall (f_is_name C) [] (mCons (mVar 2) mNil)))))
        (mRaise C.BadWord (Str.ofString "value") (mCons (mVar 2) mNil))
        mNext)
      (mIf (mBool (mOp2 dIsNot (mVar 2) (mC .non)))
        (mPut (mFld C.Watch (Str.ofString "table") (mVar 0)) (mVar 1) (mVar 2))
        (mIf (mBool (mOp2 dIn (mVar 1) (mFld C.Watch (Str.ofString "table") (mVar 0))))
          (mDel (mFld C.Watch (Str.ofString "table") (mVar 0)) (mVar 1))
          mNext))))
noncomputable def k_Watch_setitem_x (C : Cl) : Fn := fnK 3 3 (b_Watch_setitem_x C)
noncomputable def l_law_set_1 (C : Cl) : RE → OutX Fl :=
      (xSetO C.Watch (k_Watch_setitem_x C) (mVar 0) (mVar 1) (mVar 2))
noncomputable def b_law_set (C : Cl) : RE → Out Fl :=
      (mSeq (mTry 3 [C.BadWord] (l_law_set_1 C) [(C.BadWord, (sRetL (Str.ofString "refused") (Str.ofString "value")))])
      (mRet (mLst (mCons (mC (.str (Str.ofString "set"))) (mCons (mC .non) mNil)))))
noncomputable def k_law_set (C : Cl) : Fn := n0 (fnK 3 4 (b_law_set C))
noncomputable def f_law_set (C : Cl) : Fn := cutF (k_law_set C)
noncomputable def l_law_right_1 (C : Cl) : RE → Out (Bool × RE) :=
      mYes
noncomputable def l_law_right_2 (C : Cl) : RE → Out (D × RE) :=
      (mOp2 dIxA (mVar 1) (mVar 10))
noncomputable def l_law_right_3 (C : Cl) : RE → Out Fl :=
      (mSeq (mSet 8 (mProp C.Watch (k_Watch_words_2 C) (mVar 0)))
        (mSeq (mSet 9 (mProp C.Watch (k_Watch_sights_2 C) (mVar 0)))
        (mSeq (mIf (mTOr (mTNot (mTruth (mCall (f_law_exact C 5) [] (mCons (mVar 8) (mCons (mVar 4) mNil))))) (mTNot (mTruth (mCall (f_law_exact C 5) [] (mCons (mVar 9) (mCons (mVar 5) mNil))))))
          (mRet (mC (.bl false)))
          mNext)
        (mSeq (mDrop (mMut (mVar 8) "list" fAppend (mCons (mC (.str (Str.ofString "zz"))) mNil)))
        (mDrop (mMut (mVar 9) "list" fAppend (mCons (mC (.str (Str.ofString "zz"))) mNil)))))))
noncomputable def l_law_right_4 (C : Cl) : RE → Out Fl :=
      (mSeq (mIf (mTNot (mTruth (mCall (f_law_exact C 5) [] (mCons (mGetO C.Watch (f_Watch_getitem C) (mVar 0) (mVar 7)) (mCons (mGet (mVar 1) (mVar 7) (mC .non)) mNil)))))
          (mRet (mC (.bl false)))
          mNext)
        (mIf (mTNot (mTruth (mCall (f_law_flag C) [] (mCons (mInO C.Watch (f_Watch_contains C) (mVar 7) (mVar 0)) (mCons (mOp2 dIn (mVar 7) (mVar 4)) mNil)))))
          (mRet (mC (.bl false)))
          mNext))
noncomputable def b_law_right (C : Cl) : RE → Out Fl :=
      (mSeq (mSet 4 (mArgs (d1 dSort) (mCons (mArgs (d1 dListD) (mCons (mVar 1) mNil)) mNil)))
      (mSeq (mSet 5 (mSortK (mSetOf (mCompW anyI [10] (mVar 4) (stName 10) (l_law_right_1 C) (l_law_right_2 C)))))
      (mSeq (mFor (mRng1 (mC (.int 2))) (stName 6) (l_law_right_3 C))
      (mSeq (mIf (mTOr (mTNot (mTruth (mCall (f_law_exact C 5) [] (mCons (mLenO C.Watch (f_Watch_len C) (mVar 0)) (mCons (mArgs (d1 dLenA) (mCons (mVar 4) mNil)) mNil))))) (mTNot (mTruth (mCall (f_law_flag C) [] (mCons (mBoolO C.Watch (f_Watch_bool C) (mVar 0)) (mCons (mOp2 dGt (mArgs (d1 dLenA) (mCons (mVar 4) mNil)) (mC (.int 0))) mNil))))))
        (mRet (mC (.bl false)))
        mNext)
      (mSeq (mForW anyI (mVar 2) (stName 7) (l_law_right_4 C))
      (mRet (mCall (f_law_flag C) [] (mCons (mInO C.Watch (f_Watch_contains C) (mVar 3) (mVar 0)) (mCons (mC (.bl false)) mNil)))))))))
noncomputable def k_law_right (C : Cl) : Fn := n0 (fnK 4 11 (b_law_right C))
noncomputable def f_law_right (C : Cl) : Fn := cutF (k_law_right C)
noncomputable def l_law_k11_1 (C : Cl) : RE → Out Fl :=
      (mSeq (mSet 6 (mCall (f_law_row C) [] (mCons (mCall (f_law_cell C) [] (mCons (mVar 0) (mCons (mVar 4) mNil))) (mCons (mLst (mCons (mC (.int 7)) (mCons (mC (.int 8)) (mCons (mC (.int 11)) (mCons (mC (.int 18)) (mCons (mC (.int 17)) mNil)))))) mNil))))
        (mSeq (mSet 7 (mOp2 dIxA (mVar 1) (mOp2 dIxA (mVar 6) (mC (.int 1)))))
        (mSeq (mSet 8 (mOp2 dIxA (mOp2 dAdd (mVar 1) (mLst (mCons (mC .non) (mCons (mC .non) (mCons (mC .non) mNil))))) (mOp2 dIxA (mVar 6) (mC (.int 2)))))
        (mSeq (mSet 5 (mCall (k_law_thing_3 C) [] (mCons (mOp2 dIxA (mVar 6) (mC (.int 3))) mNil)))
        (mSeq (mIf (mBool (mOp2 dLt (mOp2 dIxA (mVar 6) (mC (.int 0))) (mC (.int 4))))
          (mSeq (mIf (mBool (mEqG true (mCall (f_law_set C) [] (mCons (mVar 2) (mCons (mVar 7) (mCons (mVar 8) mNil)))) (mLst (mCons (mC (.str (Str.ofString "set"))) (mCons (mC .non) mNil)))))
            (mRet (mC (.bl false)))
            mNext)
          (mSeq (mPut (mVar 3) (mVar 7) (mVar 8))
          (mIf (mBool (mOp2 dIs (mVar 8) (mC .non)))
            (mDrop (mMut (mVar 3) "dict" fPopK (mCons (mVar 7) mNil)))
            mNext)))
          (mIf (mBool (mOp2 dEqK (mOp2 dIxA (mVar 6) (mC (.int 0))) (mC (.int 4))))
            (mIf (mBool (mEqG true (mCall (f_law_set C) [] (mCons (mVar 2) (mCons (mVar 5) (mCons (mCall (k_law_thing_3 C) [] (mCons (mOp2 dIxA (mVar 6) (mC (.int 4))) mNil)) mNil)))) (mLst (mCons (mC (.str (Str.ofString "refused"))) (mCons (mVar 5) mNil)))))
              (mRet (mC (.bl false)))
              mNext)
            (mIf (mBool (mOp2 dEqK (mOp2 dIxA (mVar 6) (mC (.int 0))) (mC (.int 5))))
              (mSeq (mSet 9 (mCall (k_law_thing_3 C) [] (mCons (mOp2 dAdd (mC (.int 1)) (mOp2 dIxA (mVar 6) (mC (.int 4)))) mNil)))
              (mIf (mBool (mEqG true (mCall (f_law_set C) [] (mCons (mVar 2) (mCons (mVar 7) (mCons (mVar 9) mNil)))) (mLst (mCons (mC (.str (Str.ofString "refused"))) (mCons (mVar 9) mNil)))))
                (mRet (mC (.bl false)))
                mNext))
              (mSeq (mSet 10 (mMeth C.Watch (Str.ofString "copy") (k_Watch_copy_2 C) [] (mVar 2) mNil))
              (mSeq (mIf (mTOr (mBool (mEqX C.Watch [] true (f_Watch_eq_2 C) (mVar 10) (mVar 2))) (mTNot (mTruth (mCall (f_law_flag C) [] (mCons (mEqX C.Watch [] false (f_Watch_eq_2 C) (mVar 10) (mVar 2)) (mCons (mC (.bl true)) mNil))))))
                (mRet (mC (.bl false)))
                mNext)
              (mSetO C.Watch (k_Watch_setitem_2 C) (mVar 10) (mVar 7) (mVar 8)))))))
        (mIf (mTNot (mTruth (mCall (f_law_right C) [] (mCons (mVar 2) (mCons (mVar 3) (mCons (mVar 1) (mCons (mVar 5) mNil)))))))
          (mRet (mC (.bl false)))
          mNext))))))
noncomputable def l_law_k11_2 (C : Cl) : RE → Out Fl :=
      (mIf (mTOr (mTNot (mTruth (mCall (f_law_flag C) [] (mCons (mEqX C.Watch [] false (f_Watch_eq_2 C) (mVar 2) (mVar 5)) (mCons (mC (.bl false)) mNil))))) (mTNot (mTruth (mCall (f_law_flag C) [] (mCons (mNeR C.Watch (f_Watch_eq_2 C) (mVar 5) (mVar 2)) (mCons (mC (.bl true)) mNil))))))
          (mRet (mC (.bl false)))
          mNext)
noncomputable def b_law_k11 (C : Cl) : RE → Out Fl :=
      (mSeq (mSet 1 (mCall (f_law_names C) [] (mCons (mCall (f_law_cell C) [] (mCons (mVar 0) (mCons (mC (.int 0)) mNil))) (mCons (mC (.int 8)) mNil))))
      (mSeq (mSet 2 (mCall (mkF C.Watch (k_Watch_init_2 C)) [.non] mNil))
      (mSeq (mSet 3 (mCell mDnew))
      (mSeq (mFor (mRng1 (mArgs (d2 dMax2) (mCons (mC (.int 8)) (mCons (mArgs (d2 dMin2) (mCons (mC (.int 63)) (mCons (mArgs (d1 dLenA) (mCons (mVar 0) mNil)) mNil))) mNil)))) (stName 4) (l_law_k11_1 C))
      (mSeq (mFor (mItem asQ (mLst (mCons (mCell (mArgs (d1 dDict) (mCons (mVar 3) mNil))) (mCons (mArgs (d1 dSort) (mCons (mArgs (d1 dListD) (mCons (mVar 3) mNil)) mNil)) (mCons (mC .non) (mCons (mC (.int 0)) (mCons (mC (.str (Str.ofString ""))) (mCons (mCall (k_law_thing_3 C) [] (mCons (mArgs (d1 dLenA) (mCons (mVar 0) mNil)) mNil)) mNil)))))))) (stName 5) (l_law_k11_2 C))
      (mRet (mEqX C.Watch [] false (f_Watch_eq_2 C) (mCall (cutF (mkF C.Watch (k_Watch_init_2 C))) [] (mCons (mCell (mArgs (d1 dDict) (mCons (mVar 3) mNil))) mNil)) (mVar 2))))))))
noncomputable def k_law_k11 (C : Cl) : Fn := n0 (fnK 1 11 (b_law_k11 C))
end Lm
set_option maxHeartbeats 400000
namespace XS
open PySem PySem.Spec PyProof.Rows PySem.W L2
theorem al_of2 {K : Frag} {C : Addr} {nm q : Str} {N : Addr} {bs bm : List Value} {sn : List Str} {sub : List Value} {ab : Bool} {col : Option Bool} {dd : Option Addr} {k0 k1 k2 k3 k5 : Option Value} {x : Option (Option Value)}
    (h1 : K.lookup C = some (excClassObj nm q C N bs bm true sn sub ab col dd k0 k1 k2 k3 k5 "ValueError.__new__")) (h : ks_superIn K C C "__init__" = x) : alongIn K "__init__" bm = x := by
  rw [← h]
  unfold ks_superIn
  have hc : ∃ cd, clsIn K C = some cd ∧ cd.mro = .ref C :: bm := by
    unfold clsIn
    rw [h1]
    exact ⟨_, rfl, rfl⟩
  obtain ⟨cd, e1, e2⟩ := hc
  rw [e1]
  show alongIn K "__init__" bm = alongIn K "__init__" ((cd.mro.dropWhile (· != .ref C)).drop 1)
  rw [e2]
  have : (Value.ref C != Value.ref C) = false := by simp
  rw [List.dropWhile_cons, this]
  rfl
end XS
namespace Lm
open PySem L2 Mir
end Lm
set_option maxHeartbeats 4000000
namespace K11
open PySem L2 Mir Lm
def top (i : Nat) : Stmt := PySem.Challenge.pw_knownlate_k11_whole_items_of_a_watch.main.body.getD i (.Pass ⟨0, 0, 0, 0⟩)
structure Txt (P : Program) (K : PySem.W.Frag) (mg : Str → Option Value) (C : Cl) : Prop where
  n_bool : mg (Str.ofString "bool") = none
  n_dict : mg (Str.ofString "dict") = none
  n_int : mg (Str.ofString "int") = none
  n_isinstance : mg (Str.ofString "isinstance") = none
  n_len : mg (Str.ofString "len") = none
  n_list : mg (Str.ofString "list") = none
  n_max : mg (Str.ofString "max") = none
  n_min : mg (Str.ofString "min") = none
  n_range : mg (Str.ofString "range") = none
  n_set : mg (Str.ofString "set") = none
  n_sorted : mg (Str.ofString "sorted") = none
  n_str : mg (Str.ofString "str") = none
  n_super : mg (Str.ofString "super") = none
  n_tuple : mg (Str.ofString "tuple") = none
  c_LETTERS : ∃ t, mg (Str.ofString "LETTERS") = some (.str (Str.ofString "abcdefghijklmnopqrstuvwxyz") t)
  c_MOST_LETTERS : ∃ t, mg (Str.ofString "MOST_LETTERS") = some (.int 12 t)
  cl_Watch : Cls K C.Watch
  na_Watch_table : NoAttr K C.Watch (Str.ofString "table")
  mg_Watch : mg (Str.ofString "Watch") = some (.ref C.Watch)
  iso_Watch : IsO K C.Watch
  spk_Watch : SpK K C.Watch
  eqc_Watch : EqC K C.Watch []
  ner_Watch : NeR K C.Watch
  mg_BadWord : mg (Str.ofString "BadWord") = some (.ref C.BadWord)
  sup_BadWord : XS.SupC P K mg C.BadWord (Str.ofString "value")
  xf_BadWord : XfC K C.BadWord
  nf_BadWord : PySem.W.findIn K (.ref C.BadWord) (Str.ofString "value") = some none
  xm_BadWord_BadWord : PySem.W.exmOne K (.ref C.BadWord) (.ref C.BadWord) = some true
section
variable {P : Program} {w : World} {K : PySem.W.Frag} {mg : Str → Option Value} {base : Heap}
/-! ### is_name -/
abbrev s_is_name : Stmt := top 8
abbrev N_is_name : List Str := [Str.ofString "value", Str.ofString "letter"]
theorem sc_is_name : FnScope N_is_name [Str.ofString "value"] (defScope s_is_name) := ⟨rfl, rfl, rfl, by decide +kernel, rfl, by decide +kernel, by decide +kernel⟩
theorem ok_is_name {f : Addr} {fd : FuncData} {C : Cl} (T : Txt P K mg C) (F : Fun K (Str.ofString "is_name") (Str.ofString "is_name") s_is_name f fd) (hg : mg (Str.ofString "is_name") = some (.ref f)) (hb : Binds K fd [Str.ofString "value"] [])  : Fn0 P w K mg base 1 (Str.ofString "is_name") 1 (k_is_name C) :=
  fn0_k (k := 0) (mb := b_is_name C) F sc_is_name hg hb fun cdv A outer s H E hr =>
      (bm_cons (sm_if (tw (wm_or (tm_not (tm_v (em_isi T.n_isinstance (em_var 0) (em_ty T.n_str (by decide +kernel))))) (wm_or1 (tm_not (tch k_le k_le em_int (em_lenA T.n_len (em_var 0)) (em_gint T.c_MOST_LETTERS))))))
        (bm_one (sm_ret em_bl))
        bm_nil)
      (bm_cons (sm_forW (pm_var 0) way_any (gm_name 1 sc_is_name.nd)
        (bm_one (sm_if (tc (k_notIn hr) (em_var 1) (em_gstr T.c_LETTERS))
          (bm_one (sm_ret em_bl))
          bm_nil)) PassesOwn.never)
      (bm_one (sm_ret em_bl))))
/-! ### is_row -/
abbrev s_is_row : Stmt := top 9
abbrev N_is_row : List Str := [Str.ofString "value"]
theorem sc_is_row : FnScope N_is_row [Str.ofString "value"] (defScope s_is_row) := ⟨rfl, rfl, rfl, by decide +kernel, rfl, by decide +kernel, by decide +kernel⟩
theorem ok_is_row {f : Addr} {fd : FuncData} {C : Cl} (T : Txt P K mg C) (F : Fun K (Str.ofString "is_row") (Str.ofString "is_row") s_is_row f fd) (hg : mg (Str.ofString "is_row") = some (.ref f)) (hb : Binds K fd [Str.ofString "value"] [])  : Fn0 P w K mg base 1 (Str.ofString "is_row") 1 (k_is_row C) :=
  fn0_k (k := 0) (mb := b_is_row C) F sc_is_row hg hb fun cdv A outer s H E hr =>
      (bm_one (sm_ret (em_isiT T.n_isinstance (em_var 0) (em_tup (am_cons (em_ty T.n_list (by decide +kernel)) (am_cons (em_ty T.n_tuple (by decide +kernel)) am_nil))))))
/-! ### is_sight_table -/
abbrev s_is_sight_table : Stmt := top 12
abbrev N_is_sight_table : List Str := [Str.ofString "value", Str.ofString "word", Str.ofString "sight"]
theorem sc_is_sight_table : FnScope N_is_sight_table [Str.ofString "value"] (defScope s_is_sight_table) := ⟨rfl, rfl, rfl, by decide +kernel, rfl, by decide +kernel, by decide +kernel⟩
theorem ok_is_sight_table {f : Addr} {fd : FuncData} {C : Cl} (T : Txt P K mg C) (F : Fun K (Str.ofString "is_sight_table") (Str.ofString "is_sight_table") s_is_sight_table f fd) (hg : mg (Str.ofString "is_sight_table") = some (.ref f)) (hb : Binds K fd [Str.ofString "value"] []) (F_is_name : Fn0 P w K mg base 1 (Str.ofString "is_name") 1 (k_is_name C)) : Fn0 P w K mg base 2 (Str.ofString "is_sight_table") 1 (k_is_sight_table C) :=
  fn0_k (k := 1) (mb := b_is_sight_table C) F sc_is_sight_table hg hb fun cdv A outer s H E hr =>
      (bm_cons (sm_if (tm_not (tm_v (em_isi T.n_isinstance (em_var 0) (em_ty T.n_dict (by decide +kernel)))))
        (bm_one (sm_ret em_bl))
        bm_nil)
      (bm_cons (sm_forW (pm_var 0) way_items (gm_unp (n := 2) (gms_name 1 (gm_name 1 sc_is_sight_table.nd) (gms_name 2 (gm_name 2 sc_is_sight_table.nd) gms_nil)))
        (bm_one (sm_if (tw (wm_or (tm_not (tm_v (e0 F_is_name.cut hr (am_cons (em_var 1) am_nil)))) (wm_or1 (tm_not (tm_v (e0 F_is_name.cut hr (am_cons (em_var 2) am_nil)))))))
          (bm_one (sm_ret em_bl))
          bm_nil)) PassesOwn.never)
      (bm_one (sm_ret em_bl))))
/-! ### Watch.__init__ -/
abbrev s_Watch_init : Stmt := inClass (top 11) 0
abbrev N_Watch_init : List Str := [Str.ofString "self", Str.ofString "sights", Str.ofString "word"]
theorem sc_Watch_init : FnScope N_Watch_init [Str.ofString "self", Str.ofString "sights"] (defScope s_Watch_init) := ⟨rfl, rfl, rfl, by decide +kernel, rfl, by decide +kernel, by decide +kernel⟩
theorem ok_Watch_init {ds : List Value} {f : Addr} {fd : FuncData} {C : Cl} (T : Txt P K mg C) (F : FunD K (Str.ofString "__init__") (Str.ofString "Watch.__init__") (defArgs s_Watch_init) (defBody s_Watch_init) (defScope s_Watch_init) [.non] [] f fd) (hb : Binds K fd [Str.ofString "self", Str.ofString "sights"] ds) (F_is_sight_table : Fn0 P w K mg base 2 (Str.ofString "is_sight_table") 1 (k_is_sight_table C)) : FnA P w K mg base 3 f 2 (k_Watch_init_2 C) ds :=
  fnaD_k (k := 2) (mb := b_Watch_init_2 C) F sc_Watch_init hb fun cdv A outer s H E hr =>
      (bm_cons (sm_if (tw (wm_and (tc k_notN (em_var 1) em_non) (wm_and1 (tm_not (tm_v (e0 F_is_sight_table.cut hr (am_cons (em_var 1) am_nil)))))))
        (bm_one sm_no)
        bm_nil)
      (bm_cons (sm_fld C.Watch T.cl_Watch T.na_Watch_table (em_var 0) (ecl fm_dnew))
      (bm_one (sm_if (tc k_notN (em_var 1) em_non)
        (bm_one (sm_fld C.Watch T.cl_Watch T.na_Watch_table (em_var 0) (ecl (fm_dcW [2] [(Str.ofString "word", 2)] sc_Watch_init.nd (blkOk_by (N := N_Watch_init) (sc := defScope s_Watch_init) (own := [(Str.ofString "word", 2)]) (by decide +kernel)) (pm_var 1) way_any (fun _ => (gm_name 2 sc_Watch_init.nd)) (fun _ => tms_nil) (fun _ => (em_var 2)) (fun _ => (em_ixA hr (em_var 1) (em_var 2)))))))
        bm_nil))))
/-! ### Watch.words -/
abbrev s_Watch_words : Stmt := inClass (top 11) 1
abbrev N_Watch_words : List Str := [Str.ofString "self"]
theorem sc_Watch_words : FnScope N_Watch_words [Str.ofString "self"] (defScope s_Watch_words) := ⟨rfl, rfl, rfl, by decide +kernel, rfl, by decide +kernel, by decide +kernel⟩
theorem ok_Watch_words {f : Addr} {fd : FuncData} {C : Cl} (T : Txt P K mg C) (F : Fun K (Str.ofString "words") (Str.ofString "Watch.words") s_Watch_words f fd) (hb : Binds K fd [Str.ofString "self"] [])  : FnA P w K mg base 1 f 1 (k_Watch_words_2 C) [] :=
  fna_k (k := 0) (mb := b_Watch_words_2 C) F sc_Watch_words hb fun cdv A outer s H E hr =>
      (bm_one (sm_ret (ecl (fm_sort hr T.n_sorted (ef (fm_listD T.n_list (em_fld C.Watch T.cl_Watch T.na_Watch_table (em_var 0))) nl_listD)))))
/-! ### Watch.sights -/
abbrev s_Watch_sights : Stmt := inClass (top 11) 2
abbrev N_Watch_sights : List Str := [Str.ofString "self", Str.ofString "sight"]
theorem sc_Watch_sights : FnScope N_Watch_sights [Str.ofString "self"] (defScope s_Watch_sights) := ⟨rfl, rfl, rfl, by decide +kernel, rfl, by decide +kernel, by decide +kernel⟩
theorem ok_Watch_sights {f : Addr} {fd : FuncData} {C : Cl} (T : Txt P K mg C) (F : Fun K (Str.ofString "sights") (Str.ofString "Watch.sights") s_Watch_sights f fd) (hb : Binds K fd [Str.ofString "self"] [])  : FnA P w K mg base 1 f 1 (k_Watch_sights_2 C) [] :=
  fna_k (k := 0) (mb := b_Watch_sights_2 C) F sc_Watch_sights hb fun cdv A outer s H E hr =>
      (bm_one (sm_ret (ecl (fm_sortK hr T.n_sorted (km_scW [1] [(Str.ofString "sight", 1)] sc_Watch_sights.nd (blkOk_by (N := N_Watch_sights) (sc := defScope s_Watch_sights) (own := [(Str.ofString "sight", 1)]) (by decide +kernel)) (pm_fld C.Watch T.cl_Watch T.na_Watch_table (pm_var 0)) way_vals (fun _ => (gm_name 1 sc_Watch_sights.nd)) (fun _ => tms_nil) (fun _ => (em_var 1)))))))
/-! ### Watch.copy -/
abbrev s_Watch_copy : Stmt := inClass (top 11) 3
abbrev N_Watch_copy : List Str := [Str.ofString "self"]
theorem sc_Watch_copy : FnScope N_Watch_copy [Str.ofString "self"] (defScope s_Watch_copy) := ⟨rfl, rfl, rfl, by decide +kernel, rfl, by decide +kernel, by decide +kernel⟩
theorem ok_Watch_copy {f : Addr} {fd : FuncData} {C : Cl} (T : Txt P K mg C) (F : Fun K (Str.ofString "copy") (Str.ofString "Watch.copy") s_Watch_copy f fd) (hb : Binds K fd [Str.ofString "self"] []) (F_Watch_init : Mkr P w K mg base 3 (Str.ofString "Watch") C.Watch 1 (k_Watch_init_2 C)) : FnA P w K mg base 5 f 1 (k_Watch_copy_2 C) [] :=
  fna_k (k := 4) (mb := b_Watch_copy_2 C) F sc_Watch_copy hb fun cdv A outer s H E hr =>
      (bm_one (sm_ret (em_mkrK F_Watch_init hr (am_cons (em_fld C.Watch T.cl_Watch T.na_Watch_table (em_var 0)) am_nil))))
/-! ### Watch.__eq__ -/
abbrev s_Watch_eq : Stmt := inClass (top 11) 5
abbrev N_Watch_eq : List Str := [Str.ofString "self", Str.ofString "other"]
theorem sc_Watch_eq : FnScope N_Watch_eq [Str.ofString "self", Str.ofString "other"] (defScope s_Watch_eq) := ⟨rfl, rfl, rfl, by decide +kernel, rfl, by decide +kernel, by decide +kernel⟩
theorem ok_Watch_eq {f : Addr} {fd : FuncData} {C : Cl} (T : Txt P K mg C) (F : Fun K (Str.ofString "__eq__") (Str.ofString "Watch.__eq__") s_Watch_eq f fd) (hb : Binds K fd [Str.ofString "self", Str.ofString "other"] [])  : FnA P w K mg base 1 f 2 (k_Watch_eq_2 C) [] :=
  fna_k (k := 0) (mb := b_Watch_eq_2 C) F sc_Watch_eq hb fun cdv A outer s H E hr =>
      (bm_one (sm_ret (em_and (em_isOX T.n_isinstance T.mg_Watch T.iso_Watch T.eqc_Watch.D (em_var 1)) (em_one (ec (k_eqK hr) (em_fld C.Watch T.cl_Watch T.na_Watch_table (em_var 0)) (em_fld C.Watch T.cl_Watch T.na_Watch_table (em_var 1)))))))
/-! ### Watch.__len__ -/
abbrev s_Watch_len : Stmt := inClass (top 11) 6
abbrev N_Watch_len : List Str := [Str.ofString "self"]
theorem sc_Watch_len : FnScope N_Watch_len [Str.ofString "self"] (defScope s_Watch_len) := ⟨rfl, rfl, rfl, by decide +kernel, rfl, by decide +kernel, by decide +kernel⟩
theorem ok_Watch_len {f : Addr} {fd : FuncData} {C : Cl} (T : Txt P K mg C) (F : Fun K (Str.ofString "__len__") (Str.ofString "Watch.__len__") s_Watch_len f fd) (hb : Binds K fd [Str.ofString "self"] [])  : FnA P w K mg base 1 f 1 (k_Watch_len C) [] :=
  fna_k (k := 0) (mb := b_Watch_len C) F sc_Watch_len hb fun cdv A outer s H E hr =>
      (bm_one (sm_ret (em_lenA T.n_len (em_fld C.Watch T.cl_Watch T.na_Watch_table (em_var 0)))))
/-! ### Watch.__bool__ -/
abbrev s_Watch_bool : Stmt := inClass (top 11) 7
abbrev N_Watch_bool : List Str := [Str.ofString "self"]
theorem sc_Watch_bool : FnScope N_Watch_bool [Str.ofString "self"] (defScope s_Watch_bool) := ⟨rfl, rfl, rfl, by decide +kernel, rfl, by decide +kernel, by decide +kernel⟩
theorem ok_Watch_bool {f : Addr} {fd : FuncData} {C : Cl} (T : Txt P K mg C) (F : Fun K (Str.ofString "__bool__") (Str.ofString "Watch.__bool__") s_Watch_bool f fd) (hb : Binds K fd [Str.ofString "self"] [])  : FnA P w K mg base 1 f 1 (k_Watch_bool C) [] :=
  fna_k (k := 0) (mb := b_Watch_bool C) F sc_Watch_bool hb fun cdv A outer s H E hr =>
      (bm_one (sm_ret (ec k_gt (em_lenA T.n_len (em_fld C.Watch T.cl_Watch T.na_Watch_table (em_var 0))) em_int)))
/-! ### Watch.__contains__ -/
abbrev s_Watch_contains : Stmt := inClass (top 11) 8
abbrev N_Watch_contains : List Str := [Str.ofString "self", Str.ofString "word"]
theorem sc_Watch_contains : FnScope N_Watch_contains [Str.ofString "self", Str.ofString "word"] (defScope s_Watch_contains) := ⟨rfl, rfl, rfl, by decide +kernel, rfl, by decide +kernel, by decide +kernel⟩
theorem ok_Watch_contains {f : Addr} {fd : FuncData} {C : Cl} (T : Txt P K mg C) (F : Fun K (Str.ofString "__contains__") (Str.ofString "Watch.__contains__") s_Watch_contains f fd) (hb : Binds K fd [Str.ofString "self", Str.ofString "word"] [])  : FnA P w K mg base 1 f 2 (k_Watch_contains C) [] :=
  fna_k (k := 0) (mb := b_Watch_contains C) F sc_Watch_contains hb fun cdv A outer s H E hr =>
      (bm_one (sm_ret (em_and (em_isi T.n_isinstance (em_var 1) (em_ty T.n_str (by decide +kernel))) (em_one (ec (k_in hr) (em_var 1) (em_fld C.Watch T.cl_Watch T.na_Watch_table (em_var 0)))))))
/-! ### Watch.__getitem__ -/
abbrev s_Watch_getitem : Stmt := inClass (top 11) 10
abbrev N_Watch_getitem : List Str := [Str.ofString "self", Str.ofString "word"]
theorem sc_Watch_getitem : FnScope N_Watch_getitem [Str.ofString "self", Str.ofString "word"] (defScope s_Watch_getitem) := ⟨rfl, rfl, rfl, by decide +kernel, rfl, by decide +kernel, by decide +kernel⟩
theorem ok_Watch_getitem {f : Addr} {fd : FuncData} {C : Cl} (T : Txt P K mg C) (F : Fun K (Str.ofString "__getitem__") (Str.ofString "Watch.__getitem__") s_Watch_getitem f fd) (hb : Binds K fd [Str.ofString "self", Str.ofString "word"] []) (F_is_name : Fn0 P w K mg base 1 (Str.ofString "is_name") 1 (k_is_name C)) : FnA P w K mg base 2 f 2 (k_Watch_getitem C) [] :=
  fna_k (k := 1) (mb := b_Watch_getitem C) F sc_Watch_getitem hb fun cdv A outer s H E hr =>
      (bm_cons (sm_if (tm_not (tm_v (e0 F_is_name.cut hr (am_cons (em_var 1) am_nil))))
        (bm_one sm_no)
        bm_nil)
      (bm_one (sm_ret (em_get1 hr (em_fld C.Watch T.cl_Watch T.na_Watch_table (em_var 0)) (em_var 1)))))
/-! ### Watch.__setitem__ -/
abbrev s_Watch_setitem : Stmt := inClass (top 11) 11
abbrev N_Watch_setitem : List Str := [Str.ofString "self", Str.ofString "word", Str.ofString "sight"]
theorem sc_Watch_setitem : FnScope N_Watch_setitem [Str.ofString "self", Str.ofString "word", Str.ofString "sight"] (defScope s_Watch_setitem) := ⟨rfl, rfl, rfl, by decide +kernel, rfl, by decide +kernel, by decide +kernel⟩
theorem ok_Watch_setitem {f : Addr} {fd : FuncData} {C : Cl} (T : Txt P K mg C) (F : Fun K (Str.ofString "__setitem__") (Str.ofString "Watch.__setitem__") s_Watch_setitem f fd) (hb : Binds K fd [Str.ofString "self", Str.ofString "word", Str.ofString "sight"] []) (F_is_name : Fn0 P w K mg base 1 (Str.ofString "is_name") 1 (k_is_name C)) : FnA P w K mg base 2 f 3 (k_Watch_setitem_2 C) [] :=
  fna_k (k := 1) (mb := b_Watch_setitem_2 C) F sc_Watch_setitem hb fun cdv A outer s H E hr =>
      (bm_cons (sm_if (tm_not (tm_v (e0 F_is_name.cut hr (am_cons (em_var 1) am_nil))))
        (bm_one sm_no)
        bm_nil)
      (bm_cons (sm_if (tw (wm_and (tc k_notN (em_var 2) em_non) (wm_and1 (tm_not (tm_v (e0 F_is_name.cut hr (am_cons (em_var 2) am_nil)))))))
        (bm_one sm_no)
        bm_nil)
      (bm_one (sm_if (tc k_notN (em_var 2) em_non)
        (bm_one (sm_put hr (em_fld C.Watch T.cl_Watch T.na_Watch_table (em_var 0)) (em_var 1) (em_var 2)))
        (bm_one (sm_if (tc (k_in hr) (em_var 1) (em_fld C.Watch T.cl_Watch T.na_Watch_table (em_var 0)))
          (bm_one (sm_del (em_fld C.Watch T.cl_Watch T.na_Watch_table (em_var 0)) (em_var 1)))
          bm_nil))))))
/-! ### Watch.__setitem__ -/
abbrev s_Watch_setitem_x : Stmt := inClass (top 11) 11
abbrev N_Watch_setitem_x : List Str := [Str.ofString "self", Str.ofString "word", Str.ofString "sight"]
theorem sc_Watch_setitem_x : FnScope N_Watch_setitem_x [Str.ofString "self", Str.ofString "word", Str.ofString "sight"] (defScope s_Watch_setitem_x) := ⟨rfl, rfl, rfl, by decide +kernel, rfl, by decide +kernel, by decide +kernel⟩
theorem ok_Watch_setitem_x {f : Addr} {fd : FuncData} {C : Cl} (T : Txt P K mg C) (F : Fun K (Str.ofString "__setitem__") (Str.ofString "Watch.__setitem__") s_Watch_setitem_x f fd) (hb : Binds K fd [Str.ofString "self", Str.ofString "word", Str.ofString "sight"] []) (F_is_name : Fn0 P w K mg base 1 (Str.ofString "is_name") 1 (k_is_name C)) : FnAR P w K mg base 2 f 3 (k_Watch_setitem_x C) :=
  fnar_k (k := 1) (mb := b_Watch_setitem_x C) F sc_Watch_setitem_x hb fun cdv A outer s H E hr =>
      (bm_cons (sm_if (tm_not (tm_v (e0 F_is_name.cut hr (am_cons (em_var 1) am_nil))))
        (bm_one (sm_raise takes_def T.sup_BadWord hr T.mg_BadWord (am_cons (em_var 1) am_nil)))
        bm_nil)
      (bm_cons (sm_if (tw (wm_and (tc k_notN (em_var 2) em_non) (wm_and1 (tm_not (tm_v (e0 F_is_name.cut hr (am_cons (em_var 2) am_nil)))))))
        (bm_one (sm_raise takes_def T.sup_BadWord hr T.mg_BadWord (am_cons (em_var 2) am_nil)))
        bm_nil)
      (bm_one (sm_if (tc k_notN (em_var 2) em_non)
        (bm_one (sm_put hr (em_fld C.Watch T.cl_Watch T.na_Watch_table (em_var 0)) (em_var 1) (em_var 2)))
        (bm_one (sm_if (tc (k_in hr) (em_var 1) (em_fld C.Watch T.cl_Watch T.na_Watch_table (em_var 0)))
          (bm_one (sm_del (em_fld C.Watch T.cl_Watch T.na_Watch_table (em_var 0)) (em_var 1)))
          bm_nil))))))
/-! ### _law_mix -/
abbrev s_law_mix : Stmt := top 18
abbrev N_law_mix : List Str := [Str.ofString "_law_cell_here", Str.ofString "_law_k", Str.ofString "_law_number"]
theorem sc_law_mix : FnScope N_law_mix [Str.ofString "_law_cell_here", Str.ofString "_law_k"] (defScope s_law_mix) := ⟨rfl, rfl, rfl, by decide +kernel, rfl, by decide +kernel, by decide +kernel⟩
theorem ok_law_mix {f : Addr} {fd : FuncData} {C : Cl} (T : Txt P K mg C) (F : Fun K (Str.ofString "_law_mix") (Str.ofString "_law_mix") s_law_mix f fd) (hg : mg (Str.ofString "_law_mix") = some (.ref f)) (hb : Binds K fd [Str.ofString "_law_cell_here", Str.ofString "_law_k"] [])  : Fn0 P w K mg base 1 (Str.ofString "_law_mix") 2 (k_law_mix C) :=
  fn0_k (k := 0) (mb := b_law_mix C) F sc_law_mix hg hb fun cdv A outer s H E hr =>
      (bm_cons (sm_set 2 sc_law_mix.nd (em_mod (em_mul (em_toint T.n_int (em_add (em_add (em_toint T.n_int (em_var 0)) (em_mul em_int (em_var 1))) em_int)) em_int) em_int))
      (bm_cons (sm_set 2 sc_law_mix.nd (em_mod (em_toint T.n_int (em_mul (em_var 2) (em_add (em_div (em_var 2) em_int) em_int))) em_int))
      (bm_one (sm_ret (em_mod (em_toint T.n_int (em_mul (em_var 2) (em_add (em_div (em_var 2) em_int) em_int))) em_int)))))
/-! ### _law_cell -/
abbrev s_law_cell : Stmt := top 19
abbrev N_law_cell : List Str := [Str.ofString "_law_script", Str.ofString "_law_k"]
theorem sc_law_cell : FnScope N_law_cell [Str.ofString "_law_script", Str.ofString "_law_k"] (defScope s_law_cell) := ⟨rfl, rfl, rfl, by decide +kernel, rfl, by decide +kernel, by decide +kernel⟩
theorem ok_law_cell {f : Addr} {fd : FuncData} {C : Cl} (T : Txt P K mg C) (F : Fun K (Str.ofString "_law_cell") (Str.ofString "_law_cell") s_law_cell f fd) (hg : mg (Str.ofString "_law_cell") = some (.ref f)) (hb : Binds K fd [Str.ofString "_law_script", Str.ofString "_law_k"] []) (F_law_mix : Fn0 P w K mg base 1 (Str.ofString "_law_mix") 2 (k_law_mix C)) : Fn0 P w K mg base 2 (Str.ofString "_law_cell") 2 (k_law_cell C) :=
  fn0_k (k := 1) (mb := b_law_cell C) F sc_law_cell hg hb fun cdv A outer s H E hr =>
      (bm_cons (sm_if (tc k_lt (em_var 1) (em_lenA T.n_len (em_var 0)))
        (bm_one (sm_ret (em_toint T.n_int (em_ixA hr (em_var 0) (em_var 1)))))
        bm_nil)
      (bm_cons (sm_if (tc (k_eqK hr) (em_lenA T.n_len (em_var 0)) em_int)
        (bm_one (sm_ret (em_var 1)))
        bm_nil)
      (bm_one (sm_ret (e0 F_law_mix.cut hr (am_cons (em_ixA hr (em_var 0) (em_mod (em_toint T.n_int (em_var 1)) (em_lenA T.n_len (em_var 0)))) (am_cons (em_var 1) am_nil)))))))
/-! ### _law_row -/
abbrev s_law_row : Stmt := top 20
abbrev N_law_row : List Str := [Str.ofString "_law_cell_here", Str.ofString "_law_sizes", Str.ofString "_law_row_here", Str.ofString "_law_rest", Str.ofString "_law_k"]
theorem sc_law_row : FnScope N_law_row [Str.ofString "_law_cell_here", Str.ofString "_law_sizes"] (defScope s_law_row) := ⟨rfl, rfl, rfl, by decide +kernel, rfl, by decide +kernel, by decide +kernel⟩
theorem ok_law_row {f : Addr} {fd : FuncData} {C : Cl} (T : Txt P K mg C) (F : Fun K (Str.ofString "_law_row") (Str.ofString "_law_row") s_law_row f fd) (hg : mg (Str.ofString "_law_row") = some (.ref f)) (hb : Binds K fd [Str.ofString "_law_cell_here", Str.ofString "_law_sizes"] []) (F_law_mix : Fn0 P w K mg base 1 (Str.ofString "_law_mix") 2 (k_law_mix C)) : Fn0 P w K mg base 2 (Str.ofString "_law_row") 2 (k_law_row C) :=
  fn0_k (k := 1) (mb := b_law_row C) F sc_law_row hg hb fun cdv A outer s H E hr =>
      (bm_cons (sm_set 2 sc_law_row.nd (ecl (fm_lst am_nil)))
      (bm_cons (sm_set 3 sc_law_row.nd (em_toint T.n_int (em_var 0)))
      (bm_cons (sm_for (im_rng1 T.n_range (em_lenA T.n_len (em_var 1))) (gm_name 4 sc_law_row.nd)
        (bm_one (sm_if (tc k_ge (em_var 0) (em_pow em_int em_int))
          (bm_cons (sm_expr (em_append (em_var 2) (em_mod (em_toint T.n_int (em_var 3)) (em_ixA hr (em_var 1) (em_var 4)))))
          (bm_one (sm_set 3 sc_law_row.nd (em_div (em_var 3) (em_ixA hr (em_var 1) (em_var 4))))))
          (bm_one (sm_expr (em_append (em_var 2) (em_mod (em_toint T.n_int (e0 F_law_mix.cut hr (am_cons (em_var 0) (am_cons (em_var 4) am_nil)))) (em_ixA hr (em_var 1) (em_var 4)))))))) PassesOwn.never)
      (bm_one (sm_ret (em_var 2))))))
/-! ### _law_names -/
abbrev s_law_names : Stmt := top 21
abbrev N_law_names : List Str := [Str.ofString "_law_cell_here", Str.ofString "_law_many", Str.ofString "_law_row_here", Str.ofString "_law_names_here", Str.ofString "_law_k", Str.ofString "_law_own", Str.ofString "_law_text", Str.ofString "_law_at", Str.ofString "_law_letter", Str.ofString "_law_digit"]
theorem sc_law_names : FnScope N_law_names [Str.ofString "_law_cell_here", Str.ofString "_law_many"] (defScope s_law_names) := ⟨rfl, rfl, rfl, by decide +kernel, rfl, by decide +kernel, by decide +kernel⟩
theorem ok_law_names {f : Addr} {fd : FuncData} {C : Cl} (T : Txt P K mg C) (F : Fun K (Str.ofString "_law_names") (Str.ofString "_law_names") s_law_names f fd) (hg : mg (Str.ofString "_law_names") = some (.ref f)) (hb : Binds K fd [Str.ofString "_law_cell_here", Str.ofString "_law_many"] []) (F_law_row : Fn0 P w K mg base 2 (Str.ofString "_law_row") 2 (k_law_row C)) : Fn0 P w K mg base 3 (Str.ofString "_law_names") 2 (k_law_names C) :=
  fn0_k (k := 2) (mb := b_law_names C) F sc_law_names hg hb fun cdv A outer s H E hr =>
      (bm_cons (sm_set 2 sc_law_names.nd (e0 F_law_row.cut hr (am_cons (em_var 0) (am_cons (em_add (ef (fm_lst (am_cons em_int (am_cons em_int (am_cons em_int am_nil)))) nl_lst) (em_mul (ef (fm_lst (am_cons em_int (am_cons em_int (am_cons em_int (am_cons em_int (am_cons em_int (am_cons em_int am_nil))))))) nl_lst) (em_var 1))) am_nil))))
      (bm_cons (sm_set 3 sc_law_names.nd (ecl (fm_lst am_nil)))
      (bm_cons (sm_for (im_rng1 T.n_range (em_var 1)) (gm_name 4 sc_law_names.nd)
        (bm_cons (sm_set 5 sc_law_names.nd (ef (fm_cut (em_var 2) (pm_some (em_add em_int (em_mul em_int (em_var 4)))) (pm_some (em_add em_int (em_mul em_int (em_var 4))))) nl_cut))
        (bm_cons (sm_if (tc (k_eqK hr) (em_ixA hr (em_var 2) em_int) em_int)
          (bm_one (sm_set 5 sc_law_names.nd (ef (fm_cut (em_var 2) (pm_some em_int) (pm_some em_int)) nl_cut)))
          bm_nil)
        (bm_cons (sm_set 6 sc_law_names.nd (em_join (ef (fm_lc [9] [(Str.ofString "_law_digit", 9)] sc_law_names.nd (blkOk_by (N := N_law_names) (sc := defScope s_law_names) (own := [(Str.ofString "_law_digit", 9)]) (by decide +kernel)) (im_seq (ef (fm_cut (em_var 5) (pm_some em_int) (pm_some (em_add em_int (em_ixA hr (em_var 5) em_int)))) nl_cut)) (fun _ => (gm_name 9 sc_law_names.nd)) (fun _ => tms_nil) (fun _ => (em_ixA hr em_str (em_var 9)))) nl_comp)))
        (bm_cons (sm_set 7 sc_law_names.nd (em_mod (em_toint T.n_int (em_ixA hr (em_var 2) em_int)) (em_add (em_lenA T.n_len (em_var 6)) em_int)))
        (bm_cons (sm_set 8 sc_law_names.nd (em_ixA hr em_str (em_mod (em_toint T.n_int (em_add (em_ixA hr (em_var 2) em_int) (em_mul em_int (em_var 4)))) em_int)))
        (bm_one (sm_expr (em_append (em_var 3) (em_add (em_add (em_cutS (em_var 6) pm_none (pm_some (em_var 7))) (em_var 8)) (em_cutS (em_var 6) (pm_some (em_var 7)) pm_none)))))))))) PassesOwn.never)
      (bm_one (sm_ret (em_var 3))))))
/-! ### _law_is_integer -/
abbrev s_law_is_integer : Stmt := top 22
abbrev N_law_is_integer : List Str := [Str.ofString "_law_thing_here"]
theorem sc_law_is_integer : FnScope N_law_is_integer [Str.ofString "_law_thing_here"] (defScope s_law_is_integer) := ⟨rfl, rfl, rfl, by decide +kernel, rfl, by decide +kernel, by decide +kernel⟩
theorem ok_law_is_integer {f : Addr} {fd : FuncData} {C : Cl} (T : Txt P K mg C) (F : Fun K (Str.ofString "_law_is_integer") (Str.ofString "_law_is_integer") s_law_is_integer f fd) (hg : mg (Str.ofString "_law_is_integer") = some (.ref f)) (hb : Binds K fd [Str.ofString "_law_thing_here"] [])  : Fn0 P w K mg base 1 (Str.ofString "_law_is_integer") 1 (k_law_is_integer C) :=
  fn0_k (k := 0) (mb := b_law_is_integer C) F sc_law_is_integer hg hb fun cdv A outer s H E hr =>
      (bm_one (sm_ret (em_and (em_isi T.n_isinstance (em_var 0) (em_ty T.n_int (by decide +kernel))) (em_one (em_not (em_isi T.n_isinstance (em_var 0) (em_ty T.n_bool (by decide +kernel))))))))
/-! ### _law_flag -/
abbrev s_law_flag : Stmt := top 23
abbrev N_law_flag : List Str := [Str.ofString "_law_told", Str.ofString "_law_due"]
theorem sc_law_flag : FnScope N_law_flag [Str.ofString "_law_told", Str.ofString "_law_due"] (defScope s_law_flag) := ⟨rfl, rfl, rfl, by decide +kernel, rfl, by decide +kernel, by decide +kernel⟩
theorem ok_law_flag {f : Addr} {fd : FuncData} {C : Cl} (T : Txt P K mg C) (F : Fun K (Str.ofString "_law_flag") (Str.ofString "_law_flag") s_law_flag f fd) (hg : mg (Str.ofString "_law_flag") = some (.ref f)) (hb : Binds K fd [Str.ofString "_law_told", Str.ofString "_law_due"] [])  : Fn0 P w K mg base 1 (Str.ofString "_law_flag") 2 (k_law_flag C) :=
  fn0_k (k := 0) (mb := b_law_flag C) F sc_law_flag hg hb fun cdv A outer s H E hr =>
      (bm_one (sm_ret (em_and (em_isi T.n_isinstance (em_var 0) (em_ty T.n_bool (by decide +kernel))) (em_one (ec (k_eqK hr) (em_var 0) (em_var 1))))))
/-! ### _law_exact -/
abbrev s_law_exact : Stmt := top 24
abbrev N_law_exact : List Str := [Str.ofString "_law_told", Str.ofString "_law_due", Str.ofString "_law_k"]
theorem sc_law_exact : FnScope N_law_exact [Str.ofString "_law_told", Str.ofString "_law_due"] (defScope s_law_exact) := ⟨rfl, rfl, rfl, by decide +kernel, rfl, by decide +kernel, by decide +kernel⟩
theorem ok_law_exact {f : Addr} {fd : FuncData} {C : Cl} (T : Txt P K mg C) (F : Fun K (Str.ofString "_law_exact") (Str.ofString "_law_exact") s_law_exact f fd) (hg : mg (Str.ofString "_law_exact") = some (.ref f)) (hb : Binds K fd [Str.ofString "_law_told", Str.ofString "_law_due"] []) (F_law_is_integer : Fn0 P w K mg base 1 (Str.ofString "_law_is_integer") 1 (k_law_is_integer C)) : ∀ n, Fn0 P w K mg base (1 + n) (Str.ofString "_law_exact") 2 (f_law_exact C n)
  | 0 => fn0_stuck F hg hb _ _
  | n + 1 => have G := ok_law_exact T F hg hb F_law_is_integer n; fn0_c (k := 1 + n) (mb := b_law_exact C (f_law_exact C n)) F sc_law_exact hg hb fun cdv A outer s H E hr =>
      (bm_cons (sm_if (tw (wm_or (tm_v (em_isi T.n_isinstance (em_var 1) (em_ty T.n_list (by decide +kernel)))) (wm_or1 (tm_v (em_isi T.n_isinstance (em_var 1) (em_ty T.n_tuple (by decide +kernel)))))))
        (bm_cons (sm_if (tw (wm_and (tm_v (em_isi T.n_isinstance (em_var 1) (em_ty T.n_list (by decide +kernel)))) (wm_and1 (tm_not (tm_v (em_isi T.n_isinstance (em_var 0) (em_ty T.n_list (by decide +kernel))))))))
          (bm_one (sm_ret em_bl))
          bm_nil)
        (bm_cons (sm_if (tw (wm_and (tm_v (em_isi T.n_isinstance (em_var 1) (em_ty T.n_tuple (by decide +kernel)))) (wm_and1 (tm_not (tm_v (em_isi T.n_isinstance (em_var 0) (em_ty T.n_tuple (by decide +kernel))))))))
          (bm_one (sm_ret em_bl))
          bm_nil)
        (bm_cons (sm_if (tc (k_neK hr) (em_lenA T.n_len (em_var 0)) (em_lenA T.n_len (em_var 1)))
          (bm_one (sm_ret em_bl))
          bm_nil)
        (bm_cons (sm_for (im_rng1 T.n_range (em_lenA T.n_len (em_var 1))) (gm_name 2 sc_law_exact.nd)
          (bm_one (sm_if (tm_not (tm_v (e0 G hr (am_cons (em_ixA hr (em_var 0) (em_var 2)) (am_cons (em_ixA hr (em_var 1) (em_var 2)) am_nil)) (hj := by omega))))
            (bm_one (sm_ret em_bl))
            bm_nil)) PassesOwn.never)
        (bm_one (sm_ret em_bl))))))
        bm_nil)
      (bm_cons (sm_if (tc k_isN (em_var 1) em_non)
        (bm_one (sm_ret (ec k_isN (em_var 0) em_non)))
        bm_nil)
      (bm_cons (sm_if (tm_v (em_isi T.n_isinstance (em_var 1) (em_ty T.n_bool (by decide +kernel))))
        (bm_one (sm_ret (em_and (em_isi T.n_isinstance (em_var 0) (em_ty T.n_bool (by decide +kernel))) (em_one (ec (k_eqK hr) (em_var 0) (em_var 1))))))
        bm_nil)
      (bm_cons (sm_if (tm_v (em_isi T.n_isinstance (em_var 1) (em_ty T.n_int (by decide +kernel))))
        (bm_one (sm_ret (em_and (e0 F_law_is_integer.cut hr (am_cons (em_var 0) am_nil) (hj := by omega)) (em_one (ec (k_eqK hr) (em_var 0) (em_var 1))))))
        bm_nil)
      (bm_one (sm_ret (em_and (em_isi T.n_isinstance (em_var 0) (em_ty T.n_str (by decide +kernel))) (em_one (ec (k_eqK hr) (em_var 0) (em_var 1))))))))))
/-! ### _law_deep -/
abbrev s_law_deep : Stmt := top 25
abbrev N_law_deep : List Str := [Str.ofString "_law_many", Str.ofString "_law_thing_here", Str.ofString "_law_k"]
theorem sc_law_deep : FnScope N_law_deep [Str.ofString "_law_many"] (defScope s_law_deep) := ⟨rfl, rfl, rfl, by decide +kernel, rfl, by decide +kernel, by decide +kernel⟩
theorem ok_law_deep {f : Addr} {fd : FuncData} {C : Cl} (T : Txt P K mg C) (F : Fun K (Str.ofString "_law_deep") (Str.ofString "_law_deep") s_law_deep f fd) (hg : mg (Str.ofString "_law_deep") = some (.ref f)) (hb : Binds K fd [Str.ofString "_law_many"] [])  : Fn0 P w K mg base 1 (Str.ofString "_law_deep") 1 (k_law_deep_2 C) :=
  fn0_k (k := 0) (mb := b_law_deep_2 C) F sc_law_deep hg hb fun cdv A outer s H E hr =>
      (bm_cons (sm_set 1 sc_law_deep.nd (ef (fm_lst am_nil) nl_lst))
      (bm_cons (sm_for (im_rng1 T.n_range (em_var 0)) (gm_name 2 sc_law_deep.nd)
        (bm_one (sm_set 1 sc_law_deep.nd (ecl (fm_lst (am_cons (em_var 1) am_nil))))) PassesOwn.never)
      (bm_one (sm_ret (em_var 1)))))
/-! ### _law_thing -/
abbrev s_law_thing : Stmt := top 26
abbrev N_law_thing : List Str := [Str.ofString "_law_digit", Str.ofString "_law_things"]
theorem sc_law_thing : FnScope N_law_thing [Str.ofString "_law_digit"] (defScope s_law_thing) := ⟨rfl, rfl, rfl, by decide +kernel, rfl, by decide +kernel, by decide +kernel⟩
theorem ok_law_thing {f : Addr} {fd : FuncData} {C : Cl} (T : Txt P K mg C) (F : Fun K (Str.ofString "_law_thing") (Str.ofString "_law_thing") s_law_thing f fd) (hg : mg (Str.ofString "_law_thing") = some (.ref f)) (hb : Binds K fd [Str.ofString "_law_digit"] []) (F_law_deep : Fn0 P w K mg base 1 (Str.ofString "_law_deep") 1 (k_law_deep_2 C)) : Fn0 P w K mg base 2 (Str.ofString "_law_thing") 1 (k_law_thing_3 C) :=
  fn0_k (k := 1) (mb := b_law_thing_3 C) F sc_law_thing hg hb fun cdv A outer s H E hr =>
      (bm_cons (sm_set 1 sc_law_thing.nd (ecl (fm_lst (am_cons em_non (am_cons em_bl (am_cons em_bl (am_cons (em_neg em_int) (am_cons em_int (am_cons (em_pow em_int em_int) (am_cons em_str (am_cons em_str (am_cons em_str am_nil))))))))))))
      (bm_cons (sm_set 1 sc_law_thing.nd (ecl (fm_addL (em_var 1) (ef (fm_lst (am_cons em_str (am_cons (ef (fm_lst am_nil) nl_lst) (am_cons (ecl fm_dnew) (am_cons (em_tup am_nil) (am_cons (ef (fm_lst (am_cons em_str am_nil)) nl_lst) (am_cons (em_tup (am_cons em_str am_nil)) (am_cons em_str am_nil)))))))) nl_lst))))
      (bm_cons (sm_expr (em_append (em_var 1) (e0 F_law_deep hr (am_cons em_int am_nil))))
      (bm_cons (sm_expr (em_append (em_var 1) (ecl (fm_disp (prm_cons em_str em_int prm_nil)))))
      (bm_one (sm_ret (em_ixA hr (em_var 1) (em_mod (em_toint T.n_int (em_var 0)) (em_lenA T.n_len (em_var 1))))))))))
/-! ### _law_set -/
abbrev s_law_set : Stmt := top 27
abbrev N_law_set : List Str := [Str.ofString "_law_watch", Str.ofString "_law_word", Str.ofString "_law_sight", Str.ofString "e"]
theorem sc_law_set : FnScope N_law_set [Str.ofString "_law_watch", Str.ofString "_law_word", Str.ofString "_law_sight"] (defScope s_law_set) := ⟨rfl, rfl, rfl, by decide +kernel, rfl, by decide +kernel, by decide +kernel⟩
theorem ok_law_set {f : Addr} {fd : FuncData} {C : Cl} (T : Txt P K mg C) (F : Fun K (Str.ofString "_law_set") (Str.ofString "_law_set") s_law_set f fd) (hg : mg (Str.ofString "_law_set") = some (.ref f)) (hb : Binds K fd [Str.ofString "_law_watch", Str.ofString "_law_word", Str.ofString "_law_sight"] []) (F_Watch_setitem_x : SpcR P w K mg base 2 C.Watch (Str.ofString "__setitem__") 3 (k_Watch_setitem_x C)) : Fn0 P w K mg base 4 (Str.ofString "_law_set") 3 (k_law_set C) :=
  (fnr_k (k := 3) (mb := b_law_set C) F sc_law_set hg hb fun cdv A outer s H E hr =>
      (bm_cons (sm_try (i := 3) sc_law_set.nd takes_def (fun Wi pn xe tk => (xb_one (xm_setO T.spk_Watch F_Watch_setitem_x tk hr (em_var 0) (em_var 1) (em_var 2))))
        (.cons ⟨by rfl, by decide, .inl T.mg_BadWord⟩ (su_retL T.xf_BadWord T.nf_BadWord) .nil)
        (tells_cons (row_hit T.xm_BadWord_BadWord row_nil) tells_nil))
      (bm_one (sm_ret (ef (fm_lst (am_cons em_str (am_cons em_non am_nil))) nl_lst))))).zero
/-! ### _law_right -/
abbrev s_law_right : Stmt := top 28
abbrev N_law_right : List Str := [Str.ofString "_law_watch", Str.ofString "_law_table", Str.ofString "_law_names_here", Str.ofString "_law_thing_here", Str.ofString "_law_words", Str.ofString "_law_sights", Str.ofString "_law_turn", Str.ofString "_law_name", Str.ofString "_law_told", Str.ofString "_law_seen", Str.ofString "_law_word"]
theorem sc_law_right : FnScope N_law_right [Str.ofString "_law_watch", Str.ofString "_law_table", Str.ofString "_law_names_here", Str.ofString "_law_thing_here"] (defScope s_law_right) := ⟨rfl, rfl, rfl, by decide +kernel, rfl, by decide +kernel, by decide +kernel⟩
theorem ok_law_right {f : Addr} {fd : FuncData} {C : Cl} (T : Txt P K mg C) (F : Fun K (Str.ofString "_law_right") (Str.ofString "_law_right") s_law_right f fd) (hg : mg (Str.ofString "_law_right") = some (.ref f)) (hb : Binds K fd [Str.ofString "_law_watch", Str.ofString "_law_table", Str.ofString "_law_names_here", Str.ofString "_law_thing_here"] []) (F_Watch_words : Prp P w K mg base 1 C.Watch (Str.ofString "words") (k_Watch_words_2 C)) (F_Watch_sights : Prp P w K mg base 1 C.Watch (Str.ofString "sights") (k_Watch_sights_2 C)) (F_law_exact : Fn0 P w K mg base 6 (Str.ofString "_law_exact") 2 (f_law_exact C 5)) (F_Watch_len : Spc P w K mg base 1 C.Watch (Str.ofString "__len__") 1 (k_Watch_len C)) (F_Watch_bool : Spc P w K mg base 1 C.Watch (Str.ofString "__bool__") 1 (k_Watch_bool C)) (F_law_flag : Fn0 P w K mg base 1 (Str.ofString "_law_flag") 2 (k_law_flag C)) (F_Watch_getitem : Spc P w K mg base 2 C.Watch (Str.ofString "__getitem__") 2 (k_Watch_getitem C)) (F_Watch_contains : Spc P w K mg base 1 C.Watch (Str.ofString "__contains__") 2 (k_Watch_contains C)) : Fn0 P w K mg base 7 (Str.ofString "_law_right") 4 (k_law_right C) :=
  fn0_k (k := 6) (mb := b_law_right C) F sc_law_right hg hb fun cdv A outer s H E hr =>
      (bm_cons (sm_set 4 sc_law_right.nd (ef (fm_sort hr T.n_sorted (ef (fm_listD T.n_list (em_var 1)) nl_listD)) nl_sort))
      (bm_cons (sm_set 5 sc_law_right.nd (ef (fm_sortK hr T.n_sorted (km_setOf T.n_set (ef (fm_lcW [10] [(Str.ofString "_law_word", 10)] sc_law_right.nd (blkOk_by (N := N_law_right) (sc := defScope s_law_right) (own := [(Str.ofString "_law_word", 10)]) (by decide +kernel)) (pm_var 4) way_any (fun _ => (gm_name 10 sc_law_right.nd)) (fun _ => tms_nil) (fun _ => (em_ixA hr (em_var 1) (em_var 10)))) nl_compW))) nl_sortK))
      (bm_cons (sm_for (im_rng1 T.n_range em_int) (gm_name 6 sc_law_right.nd)
        (bm_cons (sm_set 8 sc_law_right.nd (em_prp T.cl_Watch F_Watch_words hr (em_var 0)))
        (bm_cons (sm_set 9 sc_law_right.nd (em_prp T.cl_Watch F_Watch_sights hr (em_var 0)))
        (bm_cons (sm_if (tw (wm_or (tm_not (tm_v (e0 F_law_exact hr (am_cons (em_var 8) (am_cons (em_var 4) am_nil))))) (wm_or1 (tm_not (tm_v (e0 F_law_exact hr (am_cons (em_var 9) (am_cons (em_var 5) am_nil))))))))
          (bm_one (sm_ret em_bl))
          bm_nil)
        (bm_cons (sm_expr (em_append (em_var 8) em_str))
        (bm_one (sm_expr (em_append (em_var 9) em_str))))))) PassesOwn.never)
      (bm_cons (sm_if (tw (wm_or (tm_not (tm_v (e0 F_law_exact hr (am_cons (em_lenO F_Watch_len.cut hr T.n_len (em_var 0)) (am_cons (em_lenA T.n_len (em_var 4)) am_nil))))) (wm_or1 (tm_not (tm_v (e0 F_law_flag.cut hr (am_cons (em_boolO F_Watch_bool.cut hr T.n_bool (em_var 0)) (am_cons (ec k_gt (em_lenA T.n_len (em_var 4)) em_int) am_nil))))))))
        (bm_one (sm_ret em_bl))
        bm_nil)
      (bm_cons (sm_forW (pm_var 2) way_any (gm_name 7 sc_law_right.nd)
        (bm_cons (sm_if (tm_not (tm_v (e0 F_law_exact hr (am_cons (em_getO F_Watch_getitem.cut hr (em_var 0) (em_var 7)) (am_cons (em_get1 hr (em_var 1) (em_var 7)) am_nil)))))
          (bm_one (sm_ret em_bl))
          bm_nil)
        (bm_one (sm_if (tm_not (tm_v (e0 F_law_flag.cut hr (am_cons (em_inO F_Watch_contains.cut hr (em_var 7) (em_var 0)) (am_cons (ec (k_in hr) (em_var 7) (em_var 4)) am_nil)))))
          (bm_one (sm_ret em_bl))
          bm_nil))) PassesOwn.never)
      (bm_one (sm_ret (e0 F_law_flag.cut hr (am_cons (em_inO F_Watch_contains.cut hr (em_var 3) (em_var 0)) (am_cons em_bl am_nil))))))))))
/-! ### law -/
abbrev s_law : Stmt := top 29
abbrev N_law : List Str := [Str.ofString "_law_script", Str.ofString "_law_names_here", Str.ofString "_law_watch", Str.ofString "_law_table", Str.ofString "_law_k", Str.ofString "_law_thing_here", Str.ofString "_law_row_here", Str.ofString "_law_word", Str.ofString "_law_sight", Str.ofString "_law_wrong", Str.ofString "_law_other"]
theorem sc_law : FnScope N_law [Str.ofString "_law_script"] (defScope s_law) := ⟨rfl, rfl, rfl, by decide +kernel, rfl, by decide +kernel, by decide +kernel⟩
theorem okL {f : Addr} {fd : FuncData} {C : Cl} (T : Txt P K mg C) (F : Fun K (Str.ofString "law") (Str.ofString "law") s_law f fd) (F_law_cell : Fn0 P w K mg base 2 (Str.ofString "_law_cell") 2 (k_law_cell C)) (F_law_names : Fn0 P w K mg base 3 (Str.ofString "_law_names") 2 (k_law_names C)) (D_Watch_init : Mkd P w K mg base 3 (Str.ofString "Watch") C.Watch 1 (k_Watch_init_2 C)) (F_law_row : Fn0 P w K mg base 2 (Str.ofString "_law_row") 2 (k_law_row C)) (F_law_thing : Fn0 P w K mg base 2 (Str.ofString "_law_thing") 1 (k_law_thing_3 C)) (F_law_set : Fn0 P w K mg base 4 (Str.ofString "_law_set") 3 (k_law_set C)) (F_Watch_copy : Mth P w K mg base 5 C.Watch (Str.ofString "copy") 1 (k_Watch_copy_2 C)) (F_Watch_eq : EqO P w K mg base 1 C.Watch (k_Watch_eq_2 C)) (F_law_flag : Fn0 P w K mg base 1 (Str.ofString "_law_flag") 2 (k_law_flag C)) (F_Watch_setitem : Spc P w K mg base 2 C.Watch (Str.ofString "__setitem__") 3 (k_Watch_setitem_2 C)) (F_law_right : Fn0 P w K mg base 7 (Str.ofString "_law_right") 4 (k_law_right C)) (F_Watch_init : Mkr P w K mg base 3 (Str.ofString "Watch") C.Watch 1 (k_Watch_init_2 C)) : FnOk P w K mg base CX0 8 f fd [Str.ofString "_law_script"] (spN (⟨K, w⟩ : KW) 1 (k_law_k11 C)) :=
  fn_0 (N := N_law) (ps := [Str.ofString "_law_script"]) (k := 7) (mb := b_law_k11 C) F sc_law fun cdv A outer s H E hr =>
      (bm_cons (sm_set 1 sc_law.nd (e0 F_law_names.cut hr (am_cons (e0 F_law_cell.cut hr (am_cons (em_var 0) (am_cons em_int am_nil))) (am_cons em_int am_nil))))
      (bm_cons (sm_set 2 sc_law.nd (em_mkdK D_Watch_init hr))
      (bm_cons (sm_set 3 sc_law.nd (ecl fm_dnew))
      (bm_cons (sm_for (im_rng1 T.n_range (em_max2 T.n_max em_int (em_min2 T.n_min em_int (em_lenA T.n_len (em_var 0))))) (gm_name 4 sc_law.nd)
        (bm_cons (sm_set 6 sc_law.nd (e0 F_law_row.cut hr (am_cons (e0 F_law_cell.cut hr (am_cons (em_var 0) (am_cons (em_var 4) am_nil))) (am_cons (ef (fm_lst (am_cons em_int (am_cons em_int (am_cons em_int (am_cons em_int (am_cons em_int am_nil)))))) nl_lst) am_nil))))
        (bm_cons (sm_set 7 sc_law.nd (em_ixA hr (em_var 1) (em_ixA hr (em_var 6) em_int)))
        (bm_cons (sm_set 8 sc_law.nd (em_ixA hr (em_add (em_var 1) (ef (fm_lst (am_cons em_non (am_cons em_non (am_cons em_non am_nil)))) nl_lst)) (em_ixA hr (em_var 6) em_int)))
        (bm_cons (sm_set 5 sc_law.nd (e0 F_law_thing hr (am_cons (em_ixA hr (em_var 6) em_int) am_nil)))
        (bm_cons (sm_if (tc k_lt (em_ixA hr (em_var 6) em_int) em_int)
          (bm_cons (sm_if (tm_neG hr (e0 F_law_set.cut hr (am_cons (em_var 2) (am_cons (em_var 7) (am_cons (em_var 8) am_nil)))) (ef (fm_lst (am_cons em_str (am_cons em_non am_nil))) nl_lst))
            (bm_one (sm_ret em_bl))
            bm_nil)
          (bm_cons (sm_put hr (em_var 3) (em_var 7) (em_var 8))
          (bm_one (sm_if (tc k_isN (em_var 8) em_non)
            (bm_one (sm_expr (em_popK (em_var 3) (em_var 7))))
            bm_nil))))
          (bm_one (sm_if (tc (k_eqK hr) (em_ixA hr (em_var 6) em_int) em_int)
            (bm_one (sm_if (tm_neG hr (e0 F_law_set.cut hr (am_cons (em_var 2) (am_cons (em_var 5) (am_cons (e0 F_law_thing hr (am_cons (em_ixA hr (em_var 6) em_int) am_nil)) am_nil)))) (ef (fm_lst (am_cons em_str (am_cons (em_var 5) am_nil))) nl_lst))
              (bm_one (sm_ret em_bl))
              bm_nil))
            (bm_one (sm_if (tc (k_eqK hr) (em_ixA hr (em_var 6) em_int) em_int)
              (bm_cons (sm_set 9 sc_law.nd (e0 F_law_thing hr (am_cons (em_add em_int (em_ixA hr (em_var 6) em_int)) am_nil)))
              (bm_one (sm_if (tm_neG hr (e0 F_law_set.cut hr (am_cons (em_var 2) (am_cons (em_var 7) (am_cons (em_var 9) am_nil)))) (ef (fm_lst (am_cons em_str (am_cons (em_var 9) am_nil))) nl_lst))
                (bm_one (sm_ret em_bl))
                bm_nil)))
              (bm_cons (sm_set 10 sc_law.nd (em_mth0 F_Watch_copy hr (em_var 2)))
              (bm_cons (sm_if (tw (wm_or (tm_neX T.eqc_Watch F_Watch_eq.cut hr (em_var 10) (em_var 2)) (wm_or1 (tm_not (tm_v (e0 F_law_flag.cut hr (am_cons (em_eqX T.eqc_Watch F_Watch_eq.cut hr (em_var 10) (em_var 2)) (am_cons em_bl am_nil))))))))
                (bm_one (sm_ret em_bl))
                bm_nil)
              (bm_one (sm_setO T.spk_Watch F_Watch_setitem hr (em_var 10) (em_var 7) (em_var 8))))))))))
        (bm_one (sm_if (tm_not (tm_v (e0 F_law_right.cut hr (am_cons (em_var 2) (am_cons (em_var 3) (am_cons (em_var 1) (am_cons (em_var 5) am_nil)))))))
          (bm_one (sm_ret em_bl))
          bm_nil))))))) PassesOwn.never)
      (bm_cons (sm_for (im_seq (ef (fm_lst (am_cons (ecl (fm_dict T.n_dict (em_var 3))) (am_cons (ef (fm_sort hr T.n_sorted (ef (fm_listD T.n_list (em_var 3)) nl_listD)) nl_sort) (am_cons em_non (am_cons em_int (am_cons em_str (am_cons (e0 F_law_thing hr (am_cons (em_lenA T.n_len (em_var 0)) am_nil)) am_nil))))))) nl_lst)) (gm_name 5 sc_law.nd)
        (bm_one (sm_if (tw (wm_or (tm_not (tm_v (e0 F_law_flag.cut hr (am_cons (em_eqX T.eqc_Watch F_Watch_eq.cut hr (em_var 2) (em_var 5)) (am_cons em_bl am_nil))))) (wm_or1 (tm_not (tm_v (e0 F_law_flag.cut hr (am_cons (em_neR T.eqc_Watch T.ner_Watch F_Watch_eq.cut hr (em_var 5) (em_var 2)) (am_cons em_bl am_nil))))))))
          (bm_one (sm_ret em_bl))
          bm_nil)) PassesOwn.never)
      (bm_one (sm_ret (em_eqX T.eqc_Watch F_Watch_eq.cut hr (em_mkr F_Watch_init hr (am_cons (ecl (fm_dict T.n_dict (em_var 3))) am_nil)) (em_var 2)))))))))
abbrev s_err_BadWord : Stmt := inClass (top 3) 0
end
end K11
set_option maxHeartbeats 400000
namespace Mir
open PySem L2
/-! ## plain facts of mirrors -/
/-! the store behind its old part -/
@[simp] theorem get_0 (st : Sto) (x : D) (l : Sto) : (st ++ x :: l)[st.length]? = some x := by simp
@[simp] theorem get_1 (st : Sto) (x y : D) (l : Sto) : (st ++ x :: y :: l)[st.length + 1]? = some y := by simp
@[simp] theorem get_2 (st : Sto) (x y z : D) (l : Sto) : (st ++ x :: y :: z :: l)[st.length + 2]? = some z := by simp
@[simp] theorem get_3 (st : Sto) (x y z u : D) (l : Sto) : (st ++ x :: y :: z :: u :: l)[st.length + 3]? = some u := by simp
@[simp] theorem set_0 (st : Sto) (x a : D) (l : Sto) : (st ++ x :: l).set st.length a = st ++ a :: l := by simp
@[simp] theorem set_1 (st : Sto) (x y a : D) (l : Sto) : (st ++ x :: y :: l).set (st.length + 1) a = st ++ x :: a :: l := by simp
@[simp] theorem set_2 (st : Sto) (x y z a : D) (l : Sto) : (st ++ x :: y :: z :: l).set (st.length + 2) a = st ++ x :: y :: a :: l := by simp
@[simp] theorem set_3 (st : Sto) (x y z u a : D) (l : Sto) : (st ++ x :: y :: z :: u :: l).set (st.length + 3) a = st ++ x :: y :: z :: a :: l := by simp
@[simp] theorem dr_str (st : Sto) (x : Str) : dr st (.str x) = some (.str x) := rfl
@[simp] theorem dr_int (st : Sto) (x : Int) : dr st (.int x) = some (.int x) := rfl
@[simp] theorem dr_bl (st : Sto) (x : Bool) : dr st (.bl x) = some (.bl x) := rfl
@[simp] theorem dr_non (st : Sto) : dr st .non = some .non := rfl
@[simp] theorem dr_ty (st : Sto) (x : String) : dr st (.ty x) = some (.ty x) := rfl
@[simp] theorem dr_lst (st : Sto) (x : List D) : dr st (.lst x) = some (.lst x) := rfl
@[simp] theorem dr_frl (st : Sto) (x : List D) : dr st (.frl x) = some (.frl x) := rfl
@[simp] theorem dr_tup (st : Sto) (x : List D) : dr st (.tup x) = some (.tup x) := rfl
@[simp] theorem dr_dic (st : Sto) (x : List (Key × D)) : dr st (.dic x) = some (.dic x) := rfl
@[simp] theorem dr_ins (st : Sto) (A : Addr) (x : List (Str × D)) : dr st (.ins A x) = some (.ins A x) := rfl
theorem dr_cell {st : Sto} {c : Nat} {d : D} (h : st[c]? = some d) (hn : ∀ e, d ≠ .lck e) : dr st (.cell c) = some d := by
  simp only [dr, h]
  cases d <;> first | rfl | exact absurd rfl (hn _)
/-- a cell of the old part -/
structure Has (st : Sto) (c : Nat) (d : D) : Prop where
  get : st[c]? = some d
theorem Has.lt {st : Sto} {c : Nat} {d : D} (h : Has st c d) : c < st.length := (List.getElem?_eq_some_iff.mp h.get).1
theorem Has.app {st : Sto} {c : Nat} {d : D} (h : Has st c d) (l : Sto) : (st ++ l)[c]? = some d := by rw [List.getElem?_append_left h.lt]; exact h.get
theorem Has.set {st : Sto} {c : Nat} {d : D} (h : Has st c d) (l : Sto) (x : D) : (st ++ l).set c x = st.set c x ++ l := by rw [List.set_append_left _ _ h.lt]
theorem Has.back {st : Sto} {c : Nat} {d : D} (h : Has st c d) (x : D) : (st.set c x).set c d = st := by
  rw [List.set_set]
  have := h.get
  refine List.ext_getElem? fun i => ?_
  by_cases e : c = i
  · subst e; rw [List.getElem?_set_self h.lt]; exact this.symm
  · rw [List.getElem?_set_ne e]
theorem Has.at {st : Sto} {c : Nat} {d : D} (h : Has st c d) (x : D) : Has (st.set c x) c x := ⟨List.getElem?_set_self h.lt⟩
theorem Has.ne {st : Sto} {c k : Nat} {d : D} (h : Has st c d) (e : k ≠ c) (x : D) : Has (st.set k x) c d := ⟨by rw [List.getElem?_set_ne e]; exact h.get⟩
theorem Has.more {st : Sto} {c : Nat} {d : D} (h : Has st c d) (l : Sto) : Has (st ++ l) c d := ⟨h.app l⟩
theorem drop_step {α : Type} {xs ys : List α} {y : α} {i : Nat} (hd : xs.drop i = y :: ys) : xs[i]? = some y ∧ xs.drop (i + 1) = ys ∧ i + 1 ≤ xs.length := by
  have hx : xs[i]? = some y := by
    have := congrArg List.head? hd
    rw [List.head?_drop] at this
    exact this
  refine ⟨hx, ?_, (List.getElem?_eq_some_iff.mp hx).1⟩
  rw [← List.drop_drop, hd]; rfl
/-- a loop that runs through: what holds by the turn -/
theorem loop_inv0 {st : D → RE → Option RE} {b : RE → Out Fl} (P : Nat → RE → Prop) {xs : List D}
    (hs : ∀ (i : Nat) (x : D) (r : RE), xs[i]? = some x → P i r → ∃ r1 r2, st x r = some r1 ∧ (b r1 = .ok (.nx r2) ∨ b r1 = .ok (.ct r2)) ∧ P (i + 1) r2) : ∀ {ys : List D} {i : Nat} {r : RE}, i ≤ xs.length → xs.drop i = ys → P i r → ∃ r', mLoop st b ys r = .ok (.nx r') ∧ P xs.length r'
  | [], i, r, hi, hd, hP => by
    have h : xs.length ≤ i := List.drop_eq_nil_iff.mp hd
    have e : i = xs.length := by omega
    exact ⟨r, rfl, e ▸ hP⟩
  | y :: ys, i, r, hi, hd, hP => by
    obtain ⟨hx, hd', hi'⟩ := drop_step hd
    obtain ⟨r1, r2, h1, h2, h3⟩ := hs i y r hx hP
    obtain ⟨r', h4, h5⟩ := loop_inv0 P hs (i := i + 1) (r := r2) hi' hd' h3
    refine ⟨r', ?_, h5⟩
    unfold mLoop
    rw [h1]
    rcases h2 with h2 | h2 <;> simp only [h2, bnd_ok, h4]
theorem loop_inv {st : D → RE → Option RE} {b : RE → Out Fl} (P : Nat → RE → Prop) {xs : List D} {r : RE} (h0 : P 0 r)
    (hs : ∀ (i : Nat) (x : D) (r : RE), xs[i]? = some x → P i r → ∃ r1 r2, st x r = some r1 ∧ (b r1 = .ok (.nx r2) ∨ b r1 = .ok (.ct r2)) ∧ P (i + 1) r2) : ∃ r', mLoop st b xs r = .ok (.nx r') ∧ P xs.length r' :=
  loop_inv0 P hs (i := 0) (Nat.zero_le _) (by simp) h0
/-- a loop by what is left and what has come: a function of the data -/
theorem loop_fold {α : Type} {st : D → RE → Option RE} {b : RE → Out Fl} (P : α → RE → Prop) (f : α → D → α) : ∀ {xs : List D}, (∀ (a : α) (x : D) (r : RE), x ∈ xs → P a r → ∃ r1 r2, st x r = some r1 ∧ (b r1 = .ok (.nx r2) ∨ b r1 = .ok (.ct r2)) ∧ P (f a x) r2) → ∀ {a : α} {r : RE}, P a r → ∃ r', mLoop st b xs r = .ok (.nx r') ∧ P (xs.foldl f a) r'
  | [], _, a, r, h => ⟨r, rfl, h⟩
  | x :: xs, hs, a, r, h => by
    obtain ⟨r1, r2, h1, h2, h3⟩ := hs a x r List.mem_cons_self h
    obtain ⟨r', h4, h5⟩ := loop_fold P f (fun a y r hy => hs a y r (List.mem_cons_of_mem _ hy)) h3
    refine ⟨r', ?_, h5⟩
    unfold mLoop
    rw [h1]
    rcases h2 with h2 | h2 <;> simp only [h2, bnd_ok, h4]
/-- a loop that may return: all turns say p, or the first that does not returns d -/
theorem loop_all {st : D → RE → Option RE} {b : RE → Out Fl} (P : RE → Prop) (p : D → Bool) (d : D) : ∀ {xs : List D}, (∀ (x : D) (r : RE), x ∈ xs → P r → ∃ r1, st x r = some r1 ∧ ((p x = true ∧ ∃ r2, b r1 = .ok (.nx r2) ∧ P r2) ∨ (p x = false ∧ ∃ r2, b r1 = .ok (.rt d r2) ∧ P r2))) → ∀ {r : RE}, P r → ∃ r', P r' ∧ mLoop st b xs r = if xs.all p = true then .ok (.nx r') else .ok (.rt d r')
  | [], _, r, h => ⟨r, h, rfl⟩
  | x :: xs, hs, r, h => by
    obtain ⟨r1, h1, h2⟩ := hs x r List.mem_cons_self h
    rcases h2 with ⟨hp, r2, h2, h3⟩ | ⟨hp, r2, h2, h3⟩
    · obtain ⟨r', h4, h5⟩ := loop_all P p d (fun y r hy => hs y r (List.mem_cons_of_mem _ hy)) h3
      refine ⟨r', h4, ?_⟩
      unfold mLoop
      simp only [h1, h2, bnd_ok, h5, List.all_cons, hp, Bool.true_and]
    · refine ⟨r2, h3, ?_⟩
      unfold mLoop
      simp only [h1, h2, bnd_ok, List.all_cons, hp, Bool.false_and, Bool.false_eq_true, if_false]
/-! comprehensions whose turns hang on nothing but the item -/
theorem comp_map {s0 : List (Option D)} {st : D → RE → Option RE} {mt : RE → Out (Bool × RE)} {me : RE → Out (D × RE)} {so : Sto} (p : D → Bool) (f : D → D) : ∀ (xs : List D) (acc : List D),
    (∀ x ∈ xs, ∃ r1 r2, st x ⟨s0, so⟩ = some r1 ∧ mt r1 = .ok (p x, r2) ∧ r2.st = so ∧ (p x = true → ∃ r3, me r2 = .ok (f x, r3) ∧ r3.st = so)) → acc.length + xs.length ≤ 1000000 →
    mCompL s0 st mt me xs so acc = .ok (acc ++ (xs.filter p).map f, so)
  | [], acc, _, _ => by simp [mCompL]
  | x :: xs, acc, h, hl => by
    obtain ⟨r1, r2, h1, h2, h3, h4⟩ := h x List.mem_cons_self
    rw [List.length_cons] at hl
    unfold mCompL
    rw [h1]
    simp only [h2, bnd_ok]
    by_cases hp : p x = true
    · obtain ⟨r3, h5, h6⟩ := h4 hp
      rw [if_pos hp, h5]
      simp only [bnd_ok]
      rw [if_pos (by omega), h6, comp_map p f xs (acc ++ [f x]) (fun y hy => h y (List.mem_cons_of_mem _ hy)) (by rw [List.length_append, List.length_singleton]; omega)]
      rw [List.filter_cons_of_pos hp, List.map_cons, List.append_assoc]
      rfl
    · rw [if_neg hp, h3, comp_map p f xs acc (fun y hy => h y (List.mem_cons_of_mem _ hy)) (by omega)]
      rw [List.filter_cons_of_neg hp]
theorem comp_all {s0 : List (Option D)} {st : D → RE → Option RE} {mt : RE → Out (Bool × RE)} {me : RE → Out (D × RE)} {so : Sto} (f : D → D) (xs : List D)
    (h : ∀ x ∈ xs, ∃ r1 r2 r3, st x ⟨s0, so⟩ = some r1 ∧ mt r1 = .ok (true, r2) ∧ r2.st = so ∧ me r2 = .ok (f x, r3) ∧ r3.st = so) (hl : xs.length ≤ 1000000) :
    mCompL s0 st mt me xs so [] = .ok (xs.map f, so) := by
  have := comp_map (s0 := s0) (st := st) (mt := mt) (me := me) (so := so) (fun _ => true) f xs [] (fun x hx => by
    obtain ⟨r1, r2, r3, h1, h2, h3, h4, h5⟩ := h x hx
    exact ⟨r1, r2, h1, h2, h3, fun _ => ⟨r3, h4, h5⟩⟩) (by rw [List.length_nil]; omega)
  rw [this, List.filter_eq_self.mpr (fun _ _ => rfl), List.nil_append]
def foldA {α : Type} (app : List D → α → Option α) : List (List D) → α → Option α
  | [], a => some a
  | d :: ds, a => (app d a).bind (foldA app ds)
theorem compG_map {α : Type} {app : List D → α → Option α} {s0 : List (Option D)} {st : D → RE → Option RE} {mt : RE → Out (Bool × RE)} {ma : RE → Out (List D × RE)} {so : Sto} (p : D → Bool) (f : D → List D) : ∀ (xs : List D) (a a' : α),
    (∀ x ∈ xs, ∃ r1 r2, st x ⟨s0, so⟩ = some r1 ∧ mt r1 = .ok (p x, r2) ∧ r2.st = so ∧ (p x = true → ∃ r3, ma r2 = .ok (f x, r3) ∧ r3.st = so)) → foldA app ((xs.filter p).map f) a = some a' →
    mCompG s0 st mt ma app xs so a = .ok (a', so)
  | [], a, a', _, e => by simp only [List.filter_nil, List.map_nil, foldA, Option.some.injEq] at e; subst e; rfl
  | x :: xs, a, a', h, e => by
    obtain ⟨r1, r2, h1, h2, h3, h4⟩ := h x List.mem_cons_self
    unfold mCompG
    rw [h1]
    simp only [h2, bnd_ok]
    by_cases hp : p x = true
    · obtain ⟨r3, h5, h6⟩ := h4 hp
      rw [List.filter_cons_of_pos hp, List.map_cons] at e
      simp only [foldA] at e
      obtain ⟨a1, e1, e2⟩ := Option.bind_eq_some_iff.mp e
      rw [if_pos hp, h5]
      simp only [bnd_ok, e1]
      rw [h6]
      exact compG_map p f xs a1 a' (fun y hy => h y (List.mem_cons_of_mem _ hy)) e2
    · rw [List.filter_cons_of_neg hp] at e
      rw [if_neg hp, h3]
      exact compG_map p f xs a a' (fun y hy => h y (List.mem_cons_of_mem _ hy)) e
@[simp] theorem atI_0 {α : Type} (x : α) (l : List α) : atI (x :: l) 0 = some x := atI_nat (j := 0) (xs := x :: l) rfl
@[simp] theorem atI_1 {α : Type} (x y : α) (l : List α) : atI (x :: y :: l) 1 = some y := atI_nat (j := 1) (xs := x :: y :: l) rfl
@[simp] theorem atI_2 {α : Type} (x y z : α) (l : List α) : atI (x :: y :: z :: l) 2 = some z := atI_nat (j := 2) (xs := x :: y :: z :: l) rfl
@[simp] theorem atI_3 {α : Type} (x y z u : α) (l : List α) : atI (x :: y :: z :: u :: l) 3 = some u := atI_nat (j := 3) (xs := x :: y :: z :: u :: l) rfl
theorem atI_in {α : Type} {xs : List α} {i : Int} (h0 : 0 ≤ i) (h1 : i < xs.length) : ∃ x, atI xs i = some x ∧ xs[i.toNat]? = some x := by
  have hi : i.toNat < xs.length := by omega
  have e : ((i.toNat : Nat) : Int) = i := by omega
  refine ⟨xs[i.toNat], ?_, List.getElem?_eq_getElem hi⟩
  have := atI_nat (List.getElem?_eq_getElem hi)
  rw [e] at this
  exact this
theorem rangeD_mem {lo : Int} {n : Nat} {x : D} {i : Nat} (h : (rangeD lo n)[i]? = some x) : x = .int (lo + i) ∧ i < n := by
  have hi : i < n := by
    have := (List.getElem?_eq_some_iff.mp h).1
    rwa [rangeD_len] at this
  rw [rangeD_get hi] at h
  exact ⟨(Option.some.inj h).symm, hi⟩
end Mir
set_option maxHeartbeats 400000
namespace Mir
open PySem L2
theorem nodup_map {α β : Type} {f : α → β} (hf : ∀ a b, f a = f b → a = b) : ∀ {l : List α}, l.Nodup → (l.map f).Nodup
  | [], _ => by simp
  | x :: l, h => by
    rw [List.nodup_cons] at h
    rw [List.map_cons, List.nodup_cons]
    refine ⟨fun z => ?_, nodup_map hf h.2⟩
    obtain ⟨y, hy, e⟩ := List.mem_map.mp z
    exact h.1 (hf _ _ e ▸ hy)
/-! ## dicts as lists of pairs -/
section
variable {κ : Type} [DecidableEq κ]
theorem find_map {kvs : List (κ × D)} {k j : κ} {v : D} : ((kvs.map fun kv => if kv.1 = k then (kv.1, v) else kv).find? fun kv => decide (kv.1 = j)).map (·.2) = if j = k then (if hasD kvs k = true then some v else none) else valD kvs j := by
  induction kvs with
  | nil => by_cases h : j = k <;> simp [h, hasD, valD]
  | cons kv kvs ih =>
    obtain ⟨k', d⟩ := kv
    by_cases h1 : k' = k
    · subst h1
      by_cases h2 : k' = j
      · subst h2; simp [hasD]
      · have h3 : j ≠ k' := fun z => h2 z.symm
        simp only [List.map_cons, if_true, List.find?_cons, decide_eq_false h2] 
        rw [ih]
        simp [h3, valD, h2]
    · simp only [List.map_cons, if_neg h1, List.find?_cons]
      by_cases h2 : k' = j
      · subst h2
        have h3 : ¬ k' = k := h1
        simp [h3, valD]
      · simp only [decide_eq_false h2]
        rw [ih]
        have e1 : hasD ((k', d) :: kvs) k = hasD kvs k := by simp only [hasD, List.any_cons, decide_eq_false h1, Bool.false_or]
        have e2 : valD ((k', d) :: kvs) j = valD kvs j := by simp only [valD, List.find?_cons, decide_eq_false h2]
        rw [e1, e2]
theorem val_put {kvs : List (κ × D)} {k j : κ} {v : D} : valD (putD kvs k v) j = if j = k then some v else valD kvs j := by
  unfold putD
  by_cases h : hasD kvs k = true
  · rw [if_pos h]
    unfold valD
    rw [find_map]
    by_cases e : j = k
    · rw [if_pos e, if_pos e, if_pos h]
    · rw [if_neg e, if_neg e]; rfl
  · rw [if_neg h]
    unfold valD
    rw [List.find?_append]
    by_cases e : j = k
    · subst e
      have : kvs.find? (fun kv => decide (kv.1 = j)) = none := by
        rw [List.find?_eq_none]
        intro x hx z
        exact h (List.any_eq_true.mpr ⟨x, hx, z⟩)
      rw [this]
      simp
    · rw [if_neg e]
      have : ([(k, v)] : List (κ × D)).find? (fun kv => decide (kv.1 = j)) = none := by
        rw [List.find?_eq_none]
        intro x hx z
        simp at hx
        subst hx
        exact e (by simpa using (of_decide_eq_true z).symm)
      rw [this, Option.or_none]
theorem len_put {kvs : List (κ × D)} {k : κ} {v : D} : (putD kvs k v).length ≤ kvs.length + 1 := by
  unfold putD
  split
  · simp
  · simp
theorem hasD_mem {kvs : List (κ × D)} {k : κ} : hasD kvs k = true ↔ k ∈ kvs.map (·.1) := by
  unfold hasD
  rw [List.any_eq_true]
  constructor
  · rintro ⟨x, hx, e⟩
    exact List.mem_map.mpr ⟨x, hx, of_decide_eq_true e⟩
  · intro h
    obtain ⟨x, hx, e⟩ := List.mem_map.mp h
    exact ⟨x, hx, decide_eq_true e⟩
/-- by a key that is new -/
theorem put_new {kvs : List (κ × D)} {k : κ} {v : D} (h : k ∉ kvs.map (·.1)) : putD kvs k v = kvs ++ [(k, v)] := by
  unfold putD
  rw [if_neg (fun z => h (hasD_mem.mp z))]
end
end Mir
set_option maxHeartbeats 400000
namespace Mir
open PySem PySem.W L2
theorem nodup_sub_len {α : Type} [DecidableEq α] : ∀ {l m : List α}, l.Nodup → (∀ a ∈ l, a ∈ m) → l.length ≤ m.length
  | [], m, _, _ => Nat.zero_le _
  | x :: l, m, hn, hs => by
    rw [List.nodup_cons] at hn
    have hx : x ∈ m := hs x List.mem_cons_self
    have h := nodup_sub_len (l := l) (m := m.erase x) hn.2 (fun a ha => (List.mem_erase_of_ne (fun (e : a = x) => hn.1 (e ▸ ha))).mpr (hs a (List.mem_cons_of_mem _ ha)))
    rw [List.length_erase_of_mem hx] at h
    have := List.length_pos_of_mem hx
    rw [List.length_cons]
    omega
theorem loop_cons {st : D → RE → Option RE} {b : RE → Out Fl} {x : D} {xs : List D} {r r1 r2 : RE} (h1 : st x r = some r1) (h2 : b r1 = .ok (.nx r2)) : mLoop st b (x :: xs) r = mLoop st b xs r2 := by
  rw [mLoop]
  simp only [h1, h2, bnd_ok]
/-! ## sorted lists of keys -/
theorem leD_key (a b : Key) : leD (ofKey a) (ofKey b) = KS.leK a b := by cases a <;> cases b <;> rfl
theorem sort_keys (ks : List Key) : (ks.map ofKey).mergeSort leD = (KS.sortK ks).map ofKey := by
  unfold KS.sortK
  exact (List.map_mergeSort fun a _ b _ => (leD_key a b).symm).symm
theorem sortOk_strs {l : List Str} (h : ∀ x ∈ l, PyData.strOk x = true) : sortOk (l.map D.str) = true := by
  have e : toPs (l.map D.str) = l.map PyData.str := by
    rw [toPs_map, List.map_map]; rfl
  unfold sortOk
  rw [e]
  simp only [Bool.and_eq_true, List.all_map, List.all_eq_true, Function.comp]
  refine ⟨⟨fun x hx => ⟨by simp [PyData.canLay0, h x hx], by simp [PyData.depth]⟩, fun x _ y _ => by simp [alike]⟩, ?_⟩
  rw [Bool.or_eq_true]
  exact .inr (by simp)
end Mir
set_option maxHeartbeats 400000
namespace Mir
open PySem L2
/-! ## texts as lists of signs -/
abbrev cl (x : Str) : List Nat := x.cps.toList
theorem cl_len (x : Str) : (cl x).length = x.length := Array.length_toList
theorem cl_app (a b : Str) : cl (a ++ b) = cl a ++ cl b := Array.toList_append
theorem cl_one (c : Nat) : cl ⟨#[c]⟩ = [c] := rfl
theorem len_app (a b : Str) : (a ++ b).length = a.length + b.length := Array.size_append
theorem cl_join : ∀ ys : List Str, cl (Str.join (Str.ofString "") ys) = (ys.map cl).flatten
  | [] => rfl
  | [x] => by simp [Str.join]
  | x :: y :: ys => by
    have := cl_join (y :: ys)
    rw [Str.join]
    · have e : cl (Str.ofString "") = [] := by decide +kernel
      rw [cl_app, cl_app, this, e, List.append_nil]
      rfl
    · intro z; cases z
theorem cl_cut (z : Str) (lo hi : Option Int) : cl (cutS z lo hi) = ((cl z).drop (HT.sIx z.length 0 lo)).take (HT.sIx z.length z.length hi - HT.sIx z.length 0 lo) := rfl
/-- z[:a] and z[a:] -/
theorem cl_take (z : Str) (a : Nat) (h : a ≤ z.length) : cl (cutS z none (some (a : Int))) = (cl z).take a := by
  rw [cl_cut, HT.sIx_none, HT.sIx_nat, Nat.min_eq_left h]
  rfl
theorem cl_drop (z : Str) (a : Nat) (h : a ≤ z.length) : cl (cutS z (some (a : Int)) none) = (cl z).drop a := by
  rw [cl_cut, HT.sIx_none, HT.sIx_nat, Nat.min_eq_left h, List.take_of_length_le]
  rw [List.length_drop, cl_len]
  exact Nat.le_refl _
/-- slices of lists -/
theorem cutD_nat {xs : List D} {a b : Nat} (h1 : a ≤ b) (h2 : b ≤ xs.length) : cutD xs (some (a : Int)) (some (b : Int)) = (xs.drop a).take (b - a) := by
  unfold cutD
  rw [HT.sIx_nat, HT.sIx_nat, Nat.min_eq_left h2, Nat.min_eq_left (Nat.le_trans h1 h2)]
end Mir
set_option maxHeartbeats 400000
namespace Mir
open PySem L2
theorem dMul_l {a : List D} {k : Nat} (h : a.length * k ≤ 1000000) (hk : k ≤ 1000000) : dMul (.lst a) (.int (k : Nat)) = .ok (.lst (List.replicate k a).flatten) := by
  simp only [dMul]
  rw [if_pos ⟨by omega, by omega, by rw [Int.toNat_natCast]; exact h⟩, Int.toNat_natCast]
theorem dAdd_l {a b : List D} (h : a.length + b.length ≤ 1000000) : dAdd (.lst a) (.lst b) = .ok (.lst (a ++ b)) := by
  simp only [dAdd]
  rw [if_pos h]
theorem rng1 {oa : RE → Out (D × RE)} {r r' : RE} {n : Nat} (h : oa r = .ok (.int n, r')) (hn : n ≤ 1000000) : mRng1 oa r = .ok (rangeD 0 n, r') := by
  simp only [mRng1, mCons, mNil, h, bnd_ok, drs, dr_int]
  rw [if_pos ⟨by omega, by omega⟩, Int.toNat_natCast]
theorem op2_ok {f : D → D → Out D} {a b : RE → Out (D × RE)} {r r1 r2 : RE} {x y x' y' z : D} (ha : a r = .ok (x, r1)) (hb : b r1 = .ok (y, r2)) (hx : dr r2.st x = some x') (hy : dr r2.st y = some y') (h : f x' y' = .ok z) : mOp2 f a b r = .ok (z, r2) := by
  simp only [mOp2, ha, hb, bnd_ok, hx, hy, h]
theorem set_ok {m : RE → Out (D × RE)} {r r1 : RE} {x : D} {i : Nat} (h : m r = .ok (x, r1)) : mSet i m r = .ok (.nx ⟨r1.s.set i (some x), r1.st⟩) := by
  simp only [mSet, h, bnd_ok]
  rfl
theorem call_ok {f : Fn} {dd ds : List D} {ms : RE → Out (List D × RE)} {r r1 : RE} {x : D} {st' : Sto} (h : ms r = .ok (ds, r1)) (hf : f (ds ++ dd) r1.st = .ok (x, st')) : mCall f dd ms r = .ok (x, ⟨r1.s, st'⟩) := by
  simp only [mCall, h, hf, bnd_ok]
theorem cons_ok {m : RE → Out (D × RE)} {ms : RE → Out (List D × RE)} {r r1 r2 : RE} {x : D} {ds : List D} (h : m r = .ok (x, r1)) (hs : ms r1 = .ok (ds, r2)) : mCons m ms r = .ok (x :: ds, r2) := by
  simp only [mCons, h, hs, bnd_ok]
end Mir
set_option maxHeartbeats 400000
namespace Lm
open PySem L2 Mir
/-! ## names and states -/
def isInt : D → Bool
  | .int _ => true
  | _ => false
def isSt : D → Bool
  | .int i => decide (0 ≤ i) && decide (i ≤ 99)
  | _ => false
/-- what the odd things have in common: nothing of it is told apart but by its type -/
def plain : D → Bool
  | .ins _ _ => false
  | .dct _ => false
  | .ty _ => false
  | .cell _ => false
  | .lck _ => false
  | .str x => decide (x.length ≤ 1000)
  | _ => true
variable {C : Cl} {st : Sto}
theorem k_integer {d : D} (h : plain d = true) : k_is_integer C [d] st = .ok (.bl (isInt d), st) := by
  cases d <;> first | rfl | cases h
theorem p_integer {d : D} (h : plain d = true) : f_is_integer C [d] st = .ok (.bl (isInt d), st) := cut_pure0 (k_integer h) rfl
theorem p_count {d : D} (h : plain d = true) : f_is_count C [d, .int 99] st = .ok (.bl (isSt d), st) := by
  refine cut_pure0 ?_ rfl
  simp [k_is_count, b_is_count, p_integer h]
  cases d <;> (try cases h) <;> simp [isInt, isSt]
  rename_i i; by_cases hi : 0 ≤ i <;> simp [hi]
theorem p_state {d : D} (h : plain d = true) : f_is_state C [d] st = .ok (.bl (isSt d), st) := by
  refine cut_pure0 ?_ rfl
  simp [k_is_state, b_is_state, p_count h]
/-! names -/
def letters : Str := Str.ofString "abcdefghijklmnopqrstuvwxyz"
def okLen (x : Str) : Bool := decide (1 ≤ (x.length : Int)) && decide ((x.length : Int) ≤ 12)
def allLet (x : Str) : Bool := x.cps.toList.all fun c => decide (c ∈ letters.cps.toList)
def isNm : D → Bool
  | .str x => okLen x && allLet x
  | _ => false
theorem name_turn {a b : Option D} {c : Nat} : l_is_name_1 C ⟨[a, some (.str ⟨#[c]⟩)], st⟩ = if c ∈ letters.cps.toList then .ok (.nx ⟨[a, some (.str ⟨#[c]⟩)], st⟩) else .ok (.rt (.bl false) ⟨[a, some (.str ⟨#[c]⟩)], st⟩) := by
  by_cases h : c ∈ letters.cps.toList
  · rw [if_pos h]
    have h' : c ∈ (Str.ofString "abcdefghijklmnopqrstuvwxyz").cps.toList := h
    simp [l_is_name_1, hasIn, h']
    simpa using h'
  · rw [if_neg h]
    have h' : c ∉ (Str.ofString "abcdefghijklmnopqrstuvwxyz").cps.toList := h
    simp [l_is_name_1, hasIn, h']
    simpa using h'
theorem name_loop (a : Option D) (x : Str) (b : Option D) : ∃ b', mLoop (stName 1) (l_is_name_1 C) (chars x) ⟨[a, b], st⟩ = if allLet x = true then .ok (.nx ⟨[a, b'], st⟩) else .ok (.rt (.bl false) ⟨[a, b'], st⟩) := by
  obtain ⟨r', ⟨b', hb⟩, h⟩ := loop_all (st := stName 1) (b := l_is_name_1 C) (fun r => ∃ b', r = ⟨[a, b'], st⟩) (fun d => match d with | .str x => decide (x.cps.getD 0 0 ∈ letters.cps.toList) | _ => false) (.bl false) (xs := chars x) (fun y r hy hr => by
    obtain ⟨c, hc, rfl⟩ := List.mem_map.mp hy
    obtain ⟨b', rfl⟩ := hr
    refine ⟨⟨[a, some (.str ⟨#[c]⟩)], st⟩, rfl, ?_⟩
    rw [name_turn (b := b')]
    by_cases hz : c ∈ letters.cps.toList
    · exact .inl ⟨by simpa using hz, _, if_pos hz, _, rfl⟩
    · exact .inr ⟨by simpa using hz, _, if_neg hz, _, rfl⟩) ⟨b, rfl⟩
  subst hb
  refine ⟨b', ?_⟩
  rw [h]
  unfold chars
  rw [List.all_map]
  rfl
theorem p_name {d : D} (h : plain d = true) : f_is_name C [d] st = .ok (.bl (isNm d), st) := by
  refine cut_pure0 ?_ rfl
  cases d with
  | str x =>
    have hx : x.length ≤ 1000000 := by
      have : x.length ≤ 1000 := by simpa [plain] using h
      omega
    obtain ⟨b', e⟩ := name_loop (C := C) (st := st) (some (.str x)) x none
    have e2 : isNm (.str x) = (okLen x && allLet x) := rfl
    rw [e2]
    by_cases h1 : (1 : Int) ≤ (x.length : Int)
    · by_cases h2 : (x.length : Int) ≤ 12
      · have ho : okLen x = true := by simp [okLen, h2]; omega
        simp [k_is_name, b_is_name, hx, ho, h1, h2]
        rw [e]
        by_cases ha : allLet x = true <;> simp [ha]
      · have ho : okLen x = false := by simp [okLen, h2]
        simp [k_is_name, b_is_name, hx, ho, h1, h2]
    · have ho : okLen x = false := by simp [okLen, h1]
      simp [k_is_name, b_is_name, hx, ho, h1]
  | non => rfl
  | bl b => rfl
  | int i => rfl
  | tup xs => rfl
  | lst xs => rfl
  | frl xs => rfl
  | dic xs => rfl
  | _ => cases h
/-! steps -/
structure Stp where
  a : Int
  w : Str
  b : Int
  deriving DecidableEq
def Stp.d (s : Stp) : D := .tup [.int s.a, .str s.w, .int s.b]
def okSt (i : Int) : Bool := decide (0 ≤ i) && decide (i ≤ 99)
def okNm (x : Str) : Bool := okLen x && allLet x
def Stp.ok (s : Stp) : Bool := okSt s.a && okNm s.w && okSt s.b
theorem okNm_len {x : Str} (h : okNm x = true) : x.length ≤ 12 := by
  simp only [okNm, okLen, Bool.and_eq_true, decide_eq_true_eq] at h
  omega
theorem plain_nm {x : Str} (h : okNm x = true) : plain (.str x) = true := by
  have := okNm_len h
  simp only [plain, decide_eq_true_eq]; omega
theorem p_step {s : Stp} (h : s.ok = true) : f_is_step C [s.d] st = .ok (.bl true, st) := by
  refine cut_pure0 ?_ rfl
  simp only [Stp.ok, Bool.and_eq_true] at h
  have h1 : isSt (.int s.a) = true := h.1.1
  have h2 : isNm (.str s.w) = true := h.1.2
  have h3 : isSt (.int s.b) = true := h.2
  simp [k_is_step, b_is_step, Stp.d, p_state (d := .int s.a) rfl, p_state (d := .int s.b) rfl, p_name (plain_nm h.1.2), h1, h2, h3, eqOk, eqD, scalD]
end Lm
set_option maxHeartbeats 400000
namespace Lm
open PySem L2 Mir
variable {C : Cl} {st : Sto}
/-! ## steps as data -/
def Stp.p (s : Stp) : PyData := .tuple [.int s.a, .str s.w, .int s.b]
theorem toP_d (s : Stp) : toP s.d = s.p := by simp only [Stp.d, toP, toPs, Stp.p]
theorem toPs_d : ∀ l : List Stp, toPs (l.map Stp.d) = l.map Stp.p
  | [] => rfl
  | s :: l => by simp only [List.map_cons, toPs, toP_d, toPs_d l]
theorem let_lt {c : Nat} (h : c ∈ letters.cps.toList) : c < 0x110000 := by
  have : letters.cps.toList.all (fun c => decide (c < 0x110000)) = true := by decide +kernel
  exact of_decide_eq_true (List.all_eq_true.mp this c h)
theorem okNm_str {x : Str} (h : okNm x = true) : PyData.strOk x = true := by
  simp only [okNm, Bool.and_eq_true, allLet, List.all_eq_true, decide_eq_true_eq] at h
  unfold PyData.strOk
  rw [← Array.all_toList, List.all_eq_true]
  exact fun c hc => decide_eq_true (let_lt (h.2 c hc))
def Good (l : List Stp) : Prop := ∀ s ∈ l, s.ok = true
theorem ok_str {s : Stp} (h : s.ok = true) : PyData.strOk s.w = true := by
  simp only [Stp.ok, Bool.and_eq_true] at h
  exact okNm_str h.1.2
theorem lay_p {s : Stp} (h : s.ok = true) : s.p.canLay0 = true := by simp [Stp.p, PyData.canLay0, PyData.canLayAll0, ok_str h]
theorem depth_p (s : Stp) : s.p.depth = 1 := by simp [Stp.p, PyData.depth, PyData.depthAll]
theorem lays_p : ∀ {l : List Stp}, Good l → PyData.canLayAll0 (l.map Stp.p) = true
  | [], _ => by simp [PyData.canLayAll0]
  | s :: l, h => by simp only [List.map_cons, PyData.canLayAll0, lay_p (h s List.mem_cons_self), lays_p fun t ht => h t (List.mem_cons_of_mem _ ht), Bool.and_self]
theorem depths_p : ∀ l : List Stp, PyData.depthAll (l.map Stp.p) ≤ 1
  | [] => by simp [PyData.depthAll]
  | s :: l => by
    have := depths_p l
    simp only [List.map_cons, PyData.depthAll, depth_p]
    omega
theorem shaped_p {s : Stp} (h : s.ok = true) : SeqAt.shaped s.p = true := by simp [SeqAt.shaped, lay_p h, depth_p]
theorem shaped_ps {l : List Stp} (h : Good l) : SeqAt.shaped (.list (l.map Stp.p)) = true := by
  have := depths_p l
  unfold SeqAt.shaped
  rw [Bool.and_eq_true]
  refine ⟨?_, decide_eq_true ?_⟩
  · simp only [PyData.canLay0]; exact lays_p h
  · simp only [PyData.depth]; omega
theorem eqv_p (s t : Stp) : PyData.eqv s.p t.p = decide (s = t) := by
  obtain ⟨a, w, b⟩ := s
  obtain ⟨a', w', b'⟩ := t
  simp only [Stp.p, PyData.eqv, PyData.eqvAll, Bool.and_true]
  rw [Bool.eq_iff_iff]
  simp
theorem in_steps {s : Stp} {l : List Stp} (hs : s.ok = true) (hl : Good l) : hasIn s.d (.lst (l.map Stp.d)) = some (decide (s ∈ l)) := by
  have h1 : isScal s.d = false := rfl
  have e : hasIn s.d (.lst (l.map Stp.d)) = if inOk s.d (l.map Stp.d) = true then some (inD s.d (l.map Stp.d)) else none := by
    unfold Stp.d; simp only [hasIn]
  rw [e]
  have h2 : inOk s.d (l.map Stp.d) = true := by
    unfold inOk
    rw [h1, toP_d, toPs_d, shaped_p hs, shaped_ps hl]; rfl
  rw [if_pos h2]
  unfold inD
  rw [h1, toP_d, toPs_d]
  simp only [Bool.false_and, Bool.false_eq_true, if_false, Option.some.injEq]
  rw [List.any_map, Bool.eq_iff_iff, List.any_eq_true]
  simp only [Function.comp, eqv_p, decide_eq_true_eq]
  exact ⟨fun ⟨x, hx, e⟩ => e ▸ hx, fun h => ⟨s, h, rfl⟩⟩
/-! ## checked_steps -/
/-- the counts in the dict -/
def cntOf (kvs : List (Key × D)) (k : Int) : Int := match valD kvs (.inl k) with
  | some (.int c) => c
  | _ => 0
def Ints (kvs : List (Key × D)) : Prop := ∀ k d, valD kvs k = some d → ∃ c, d = .int c
theorem cnt_put {kvs : List (Key × D)} {k j : Int} {c : Int} : cntOf (putD kvs (.inl k) (.int c)) j = if j = k then c else cntOf kvs j := by
  unfold cntOf
  rw [val_put]
  by_cases h : j = k
  · subst h; simp
  · have : ¬ (Sum.inl j : Key) = .inl k := fun e => h (by cases e; rfl)
    rw [if_neg this, if_neg h]
theorem ints_put {kvs : List (Key × D)} {k : Key} {c : Int} (h : Ints kvs) : Ints (putD kvs k (.int c)) := fun j d e => by
  rw [val_put] at e
  split at e
  · cases e; exact ⟨c, rfl⟩
  · exact h j d e
theorem get_cnt {kvs : List (Key × D)} (h : Ints kvs) (k : Int) : (valD kvs (.inl k)).getD (.int 0) = .int (cntOf kvs k) := by
  unfold cntOf
  cases e : valD kvs (.inl k) with
  | none => rfl
  | some d => obtain ⟨c, rfl⟩ := h _ _ e; rfl
theorem steps_turn {a0 : Option D} {i : Int} {s : Stp} {done : List Stp} {kvs : List (Key × D)} (hs : s.ok = true) (hg : Good done) (hn : s ∉ done) (hi : Ints kvs) (hc : cntOf kvs s.a < 8) (hk : kvs.length < 1000) (hd : done.length < 1000) :
    l_checked_steps_1 C ⟨[a0, some (.cell st.length), some (.cell (st.length + 1)), some (.int i), some s.d], st ++ [.lst (done.map Stp.d), .dic kvs]⟩ =
      .ok (.nx ⟨[a0, some (.cell st.length), some (.cell (st.length + 1)), some (.int i), some s.d], st ++ [.lst ((done ++ [s]).map Stp.d), .dic (putD kvs (.inl s.a) (.int (cntOf kvs s.a + 1)))]⟩) := by
  have h1 : hasIn (.tup [.int s.a, .str s.w, .int s.b]) (.lst (done.map Stp.d)) = some false := by
    have := in_steps hs hg
    rw [decide_eq_false hn] at this
    exact this
  have h2 : ∀ st', f_is_step C [.tup [.int s.a, .str s.w, .int s.b]] st' = .ok (.bl true, st') := fun st' => p_step hs
  have hv : valD (putD kvs (.inl s.a) (.int (cntOf kvs s.a + 1))) (.inl s.a) = some (.int (cntOf kvs s.a + 1)) := by rw [val_put, if_pos rfl]
  have hgc := get_cnt hi s.a
  have hk' : kvs.length < 1000000 := by omega
  have hd' : done.length < 1000000 := by omega
  have h8 : ¬ 8 < cntOf kvs s.a + 1 := by omega
  have e1 : s.d = .tup [.int s.a, .str s.w, .int s.b] := rfl
  rw [List.map_append, List.map_cons, List.map_nil, e1]
  simp [l_checked_steps_1, h2, h1, getA, hgc, hk', hv, h8, hd']
def srcN (l : List Stp) (k : Int) : Nat := l.countP fun s => decide (s.a = k)
/-- rows that make a machine -/
structure Rows (l : List Stp) : Prop where
  ok : Good l
  nd : l.Nodup
  len : l.length ≤ 80
  ne : l ≠ []
  few : ∀ k, srcN l k ≤ 8
theorem take_succ {α : Type} {l : List α} {i : Nat} {x : α} (h : l[i]? = some x) : l.take (i + 1) = l.take i ++ [x] := by
  rw [List.take_add_one, h]; rfl
theorem okCL_steps {n : Nat} : ∀ l : List Stp, okCL n (l.map Stp.d) = true
  | [] => rfl
  | s :: l => by simp only [List.map_cons, okCL, okCL_steps l, Stp.d, okC, Bool.and_self]
theorem enum_steps {l : List Stp} {i : Nat} {x : D} (h : (enumD 0 (l.map Stp.d))[i]? = some x) : ∃ s, l[i]? = some s ∧ x = .tup [.int (i : Int), s.d] := by
  have hi : i < (enumD 0 (l.map Stp.d)).length := (List.getElem?_eq_some_iff.mp h).1
  rw [enumD_len, List.length_map] at hi
  refine ⟨l[i], List.getElem?_eq_getElem hi, ?_⟩
  have := enumD_get (s := 0) (ds := l.map Stp.d) (j := i) (d := (l[i]).d) (by rw [List.getElem?_map, List.getElem?_eq_getElem hi]; rfl)
  rw [h, Nat.zero_add] at this
  exact Option.some.inj this
def StepsInv (st : Sto) (a0 : Option D) (l : List Stp) (i : Nat) (r : RE) : Prop := ∃ kvs x3 x4, r = ⟨[a0, some (.cell st.length), some (.cell (st.length + 1)), x3, x4], st ++ [.lst ((l.take i).map Stp.d), .dic kvs]⟩ ∧ Ints kvs ∧ (∀ k, cntOf kvs k = srcN (l.take i) k) ∧ kvs.length ≤ i
theorem st_pair {x0 x1 x2 x3 x4 : Option D} {so : Sto} {a b : D} : stUnp 2 (stCons (stName 3) (stCons (stName 4) stNil)) (.tup [a, b]) ⟨[x0, x1, x2, x3, x4], so⟩ = some ⟨[x0, x1, x2, some a, some b], so⟩ := rfl
theorem steps_loop {a0 : Option D} {l : List Stp} (h : Rows l) : ∃ kvs x3 x4, mLoop (stUnp 2 (stCons (stName 3) (stCons (stName 4) stNil))) (l_checked_steps_1 C) (enumD 0 (l.map Stp.d)) ⟨[a0, some (.cell st.length), some (.cell (st.length + 1)), none, none], st ++ [.lst [], .dic []]⟩ =
    .ok (.nx ⟨[a0, some (.cell st.length), some (.cell (st.length + 1)), x3, x4], st ++ [.lst (l.map Stp.d), .dic kvs]⟩) := by
  have turn : ∀ (i : Nat) (x : D) (r : RE), (enumD 0 (l.map Stp.d))[i]? = some x → StepsInv st a0 l i r → ∃ r1 r2, stUnp 2 (stCons (stName 3) (stCons (stName 4) stNil)) x r = some r1 ∧ (l_checked_steps_1 C r1 = .ok (.nx r2) ∨ l_checked_steps_1 C r1 = .ok (.ct r2)) ∧ StepsInv st a0 l (i + 1) r2 := by
    rintro i x r hx ⟨kvs, x3, x4, rfl, hi, hc, hk⟩
    obtain ⟨s, hs, rfl⟩ := enum_steps hx
    have hil : i < l.length := (List.getElem?_eq_some_iff.mp hs).1
    have hlen := h.len
    have hsm : s ∈ l := List.mem_of_getElem? hs
    have hsplit : l = l.take i ++ s :: l.drop (i + 1) := by
      have e := List.take_append_drop i l
      rw [List.drop_eq_getElem_cons hil] at e
      have : l[i] = s := by
        have := List.getElem?_eq_getElem hil
        rw [hs] at this; exact (Option.some.inj this).symm
      rw [this] at e; exact e.symm
    have hn : s ∉ l.take i := fun z => by
      have nd := h.nd
      rw [hsplit, List.nodup_append] at nd
      exact nd.2.2 s z s List.mem_cons_self rfl
    have h8 : cntOf kvs s.a < 8 := by
      rw [hc]
      have := h.few s.a
      rw [hsplit] at this
      unfold srcN at this ⊢
      rw [List.countP_append, List.countP_cons_of_pos (by simp)] at this
      omega
    have t := steps_turn (C := C) (st := st) (a0 := a0) (i := i) (h.ok s hsm) (fun t ht => h.ok t (List.mem_of_mem_take ht)) hn hi h8 (by omega) (by rw [List.length_take]; omega)
    rw [← take_succ hs] at t
    refine ⟨_, _, st_pair, .inl t, _, _, _, rfl, ints_put hi, fun k => ?_, ?_⟩
    · rw [cnt_put, take_succ hs]
      unfold srcN
      rw [List.countP_append]
      by_cases e : k = s.a
      · subst e
        rw [if_pos rfl, hc, List.countP_cons_of_pos (by simp)]
        unfold srcN
        simp
      · rw [if_neg e, hc, List.countP_cons_of_neg (by simpa using fun z => e z.symm)]
        unfold srcN
        simp
    · have := len_put (kvs := kvs) (k := (.inl s.a : Key)) (v := .int (cntOf kvs s.a + 1))
      omega
  obtain ⟨r', h1, kvs, x3, x4, rfl, _⟩ := loop_inv (r := ⟨[a0, some (.cell st.length), some (.cell (st.length + 1)), none, none], st ++ [.lst [], .dic []]⟩) (StepsInv st a0 l) ⟨[], none, none, by simp, (fun k d e => by simp [valD] at e), (fun k => rfl), Nat.le_refl _⟩ turn
  rw [enumD_len, List.length_map, List.take_length] at h1
  exact ⟨kvs, x3, x4, h1⟩
theorem p_row_l {xs : List D} : f_is_row C [.lst xs] st = .ok (.bl true, st) := cut_pure0 (by simp [k_is_row, b_is_row]) rfl
theorem p_row_t {xs : List D} : f_is_row C [.tup xs] st = .ok (.bl true, st) := cut_pure0 (by simp [k_is_row, b_is_row]) rfl
theorem p_row_c {xs : List D} {c : Nat} (h : st[c]? = some (.lst xs)) : f_is_row C [.cell c] st = .ok (.bl true, st) := cut_pure0 (by simp [k_is_row, b_is_row, h]) rfl
theorem ne_len {l : List Stp} (h : l ≠ []) : 1 ≤ l.length := by cases l with | nil => exact absurd rfl h | cons a b => simp
theorem p_checked_t {l : List Stp} (h : Rows l) : f_checked_steps C [.tup (l.map Stp.d)] st = .ok (.lst (l.map Stp.d), st) := by
  obtain ⟨kvs, x3, x4, e⟩ := steps_loop (C := C) (st := st) (a0 := some (.tup (l.map Stp.d))) h
  have h1 := ne_len h.ne
  have h2 := h.len
  have h3 : (1 : Int) ≤ (l.length : Int) := by omega
  have h4 : (l.length : Int) ≤ 80 := by omega
  have h5 : l.length ≤ 1000000 := by omega
  refine cut_rsv (d := .cell st.length) (j := [.lst (l.map Stp.d), .dic kvs]) ?_ ?_
  · simp [k_checked_steps, b_checked_steps, p_row_t, h3, h4, h5]
    rw [e]
    simp
  · rw [rsv_cell (d := .lst (l.map Stp.d)) (Nat.lt_irrefl _) (get_0 _ _ _)]
    exact rsv_ok (okCL_steps l)
theorem p_checked_l {l : List Stp} (h : Rows l) : f_checked_steps C [.lst (l.map Stp.d)] st = .ok (.lst (l.map Stp.d), st) := by
  obtain ⟨kvs, x3, x4, e⟩ := steps_loop (C := C) (st := st) (a0 := some (.lst (l.map Stp.d))) h
  have h1 := ne_len h.ne
  have h2 := h.len
  have h3 : (1 : Int) ≤ (l.length : Int) := by omega
  have h4 : (l.length : Int) ≤ 80 := by omega
  have h5 : l.length ≤ 1000000 := by omega
  refine cut_rsv (d := .cell st.length) (j := [.lst (l.map Stp.d), .dic kvs]) ?_ ?_
  · simp [k_checked_steps, b_checked_steps, p_row_l, h3, h4, h5]
    rw [e]
    simp
  · rw [rsv_cell (d := .lst (l.map Stp.d)) (Nat.lt_irrefl _) (get_0 _ _ _)]
    exact rsv_ok (okCL_steps l)
theorem p_checked_c {l : List Stp} {c : Nat} (h : Rows l) (hc : Has st c (.lst (l.map Stp.d))) : f_checked_steps C [.cell c] st = .ok (.lst (l.map Stp.d), st) := by
  obtain ⟨kvs, x3, x4, e⟩ := steps_loop (C := C) (st := st.set c (.lck (.lst (l.map Stp.d)))) (a0 := some (.cell c)) h
  rw [List.length_set] at e
  have h1 := ne_len h.ne
  have h2 := h.len
  have h3 : (1 : Int) ≤ (l.length : Int) := by omega
  have h4 : (l.length : Int) ≤ 80 := by omega
  have h5 : l.length ≤ 1000000 := by omega
  refine cut_rsv (d := .cell st.length) (j := [.lst (l.map Stp.d), .dic kvs]) ?_ ?_
  · simp [k_checked_steps, b_checked_steps, p_row_c hc.get, hc.get, hc.app, hc.set, h3, h4, h5]
    rw [e]
    simp [(hc.at _).set, hc.back]
  · rw [rsv_cell (d := .lst (l.map Stp.d)) (Nat.lt_irrefl _) (get_0 _ _ _)]
    exact rsv_ok (okCL_steps l)
end Lm
set_option maxHeartbeats 400000
namespace Lm
open PySem L2 Mir
variable {C : Cl} {st : Sto}
/-! ## lists of texts, dicts of texts -/
abbrev sDs (l : List Str) : List D := l.map D.str
theorem sDs_scal : ∀ l : List Str, (sDs l).all isScal = true
  | [] => rfl
  | x :: l => by simp only [sDs, List.map_cons, List.all_cons]; exact Bool.and_eq_true_iff.mpr ⟨rfl, sDs_scal l⟩
theorem any_sDs {w : Str} : ∀ {l : List Str}, ((sDs l).any fun y => eqS y (.str w)) = decide (w ∈ l)
  | [] => rfl
  | x :: l => by
    have := any_sDs (w := w) (l := l)
    simp only [sDs, List.map_cons, List.any_cons] at this ⊢
    rw [this]
    have e : eqS (.str x) (.str w) = decide (x = w) := by simp only [eqS]; rw [Bool.eq_iff_iff]; simp
    rw [e]
    by_cases h : x = w
    · subst h; simp
    · have h' : ¬ w = x := fun z => h z.symm
      simp [h, h']
theorem in_sDs {w : Str} {l : List Str} : hasIn (.str w) (.lst (sDs l)) = some (decide (w ∈ l)) := by
  have h : (isScal (.str w) && (sDs l).all isScal) = true := by rw [sDs_scal]; rfl
  simp only [hasIn, inOk, inD, h, Bool.true_or, if_true, any_sDs]
abbrev fDic (fs : List (Str × Str)) : List (Key × D) := fs.map fun p => (.inr p.1, .str p.2)
theorem fDic_val {fs : List (Str × Str)} {w : Str} : valD (fDic fs) (.inr w) = ((fs.find? fun p => decide (p.1 = w)).map fun p => .str p.2) := by
  induction fs with
  | nil => rfl
  | cons p fs ih =>
    unfold valD at ih ⊢
    simp only [fDic, List.map_cons, List.find?_cons] at ih ⊢
    by_cases h : p.1 = w
    · simp [h]
    · have : ¬ ((.inr p.1 : Key) = .inr w) := fun e => h (by cases e; rfl)
      simp only [decide_eq_false h, decide_eq_false this]
      exact ih
def look (fs : List (Str × Str)) (w : Str) : Str := ((fs.find? fun p => decide (p.1 = w)).map (·.2)).getD Str.empty
theorem fDic_has {fs : List (Str × Str)} {w : Str} : (valD (fDic fs) (.inr w)).isSome = decide (w ∈ fs.map (·.1)) := by
  rw [fDic_val, Option.isSome_map, Bool.eq_iff_iff, List.find?_isSome]
  simp only [decide_eq_true_eq, List.mem_map]
theorem fDic_look {fs : List (Str × Str)} {w : Str} (h : w ∈ fs.map (·.1)) : valD (fDic fs) (.inr w) = some (.str (look fs w)) := by
  have := fDic_has (fs := fs) (w := w)
  rw [decide_eq_true h] at this
  rw [fDic_val] at this ⊢
  unfold look
  cases e : fs.find? (fun p => decide (p.1 = w)) with
  | none => rw [e] at this; cases this
  | some p => rfl
theorem keyD_of (k : Key) : keyD (ofKey k) = some k := by cases k <;> rfl
theorem foldA_dic : ∀ (ps acc : List (Key × D)), ((acc ++ ps).map (·.1)).Nodup → (acc ++ ps).length < 1000000 → foldA appD (ps.map fun p => [ofKey p.1, p.2]) acc = some (acc ++ ps)
  | [], acc, _, _ => by simp [foldA]
  | p :: ps, acc, hn, hl => by
    have e : acc ++ p :: ps = (acc ++ [p]) ++ ps := by simp
    have hk : p.1 ∉ acc.map (·.1) := fun z => by
      rw [List.map_append, List.map_cons, List.nodup_append] at hn
      exact hn.2.2 _ z _ List.mem_cons_self rfl
    have hlen : acc.length < 1000000 := by rw [List.length_append] at hl; omega
    rw [List.map_cons]
    unfold foldA
    simp only [appD, hlen, if_true, keyD_of, Option.map_some, Option.bind_some, put_new hk]
    rw [foldA_dic ps (acc ++ [(p.1, p.2)]) (by rw [← e]; exact hn) (by rw [← e]; exact hl), ← e]
/-! ## checked_faults -/
structure Flts (fs : List (Str × Str)) (ws : List Str) : Prop where
  okw : ∀ p ∈ fs, okNm p.1 = true
  okn : ∀ p ∈ fs, okNm p.2 = true
  sub : ∀ p ∈ fs, p.1 ∈ ws
  nd : (fs.map (·.1)).Nodup
  wnd : ws.Nodup
  len : ws.length ≤ 1000
  few : ∀ ns : List Str, ns.Nodup → (∀ n ∈ ns, n ∈ fs.map (·.2)) → ns.length ≤ 3
def addNew (ns : List Str) (n : Str) : List Str := if n ∈ ns then ns else ns ++ [n]
theorem faults_turn {a0 a1 : Option D} {w n : Str} {ws ns : List Str} (hw : okNm w = true) (hn : okNm n = true) (hm : w ∈ ws) (hl : (addNew ns n).length ≤ 3) (h1 : a1 = some (.lst (sDs ws))) :
    l_checked_faults_1 C ⟨[a0, a1, some (.cell st.length), some (.str w), some (.str n)], st ++ [.lst (sDs ns)]⟩ = .ok (.nx ⟨[a0, a1, some (.cell st.length), some (.str w), some (.str n)], st ++ [.lst (sDs (addNew ns n))]⟩) := by
  subst h1
  have i1 : hasIn (.str w) (.lst (sDs ws)) = some true := by rw [in_sDs, decide_eq_true hm]
  have p1 : ∀ st', f_is_name C [.str w] st' = .ok (.bl true, st') := fun st' => by
    have : isNm (.str w) = true := hw
    rw [p_name (plain_nm hw), this]
  have p2 : ∀ st', f_is_name C [.str n] st' = .ok (.bl true, st') := fun st' => by
    have : isNm (.str n) = true := hn
    rw [p_name (plain_nm hn), this]
  by_cases h : n ∈ ns
  · have i2 : hasIn (.str n) (.lst (sDs ns)) = some true := by rw [in_sDs, decide_eq_true h]
    unfold addNew at hl ⊢
    rw [if_pos h] at hl ⊢
    have l1 : ns.length ≤ 1000000 := by omega
    have l2 : ¬ (3 : Int) < (ns.length : Int) := by omega
    simp [l_checked_faults_1, p1, p2, i1, i2, l1, l2]
  · have i2 : hasIn (.str n) (.lst (sDs ns)) = some false := by rw [in_sDs, decide_eq_false h]
    unfold addNew at hl ⊢
    rw [if_neg h] at hl ⊢
    rw [List.length_append, List.length_singleton] at hl
    have l0 : ns.length < 1000000 := by omega
    have l1 : ns.length + 1 ≤ 1000000 := by omega
    have l2 : ¬ (3 : Int) < (ns.length : Int) + 1 := by omega
    simp [l_checked_faults_1, p1, p2, i1, i2, l0, l1, l2]
theorem pair_items {fs : List (Str × Str)} {x : D} (h : x ∈ (fDic fs).map kvPair) : ∃ p ∈ fs, x = .tup [.str p.1, .str p.2] := by
  obtain ⟨kv, h1, rfl⟩ := List.mem_map.mp h
  obtain ⟨p, h2, rfl⟩ := List.mem_map.mp h1
  exact ⟨p, h2, rfl⟩
theorem addNew_nd {ns : List Str} {n : Str} (h : ns.Nodup) : (addNew ns n).Nodup := by
  unfold addNew
  split
  · exact h
  · rename_i q
    rw [List.nodup_append]
    exact ⟨h, by simp, fun a ha b hb => by simp at hb; subst hb; exact fun e => q (e ▸ ha)⟩
theorem addNew_mem {ns : List Str} {n m : Str} : m ∈ addNew ns n ↔ m ∈ ns ∨ m = n := by
  unfold addNew
  split
  · rename_i q
    exact ⟨.inl, fun h => h.elim id fun e => e ▸ q⟩
  · simp
def FltsInv (st : Sto) (a0 a1 : Option D) (fs : List (Str × Str)) (ns : List Str) (r : RE) : Prop := ns.Nodup ∧ (∀ n ∈ ns, n ∈ fs.map (·.2)) ∧ ∃ x3 x4, r = ⟨[a0, a1, some (.cell st.length), x3, x4], st ++ [.lst (sDs ns)]⟩
theorem faults_loop {a0 : Option D} {fs : List (Str × Str)} {ws : List Str} (h : Flts fs ws) : ∃ ns x3 x4, mLoop (stUnp 2 (stCons (stName 3) (stCons (stName 4) stNil))) (l_checked_faults_1 C) ((fDic fs).map kvPair) ⟨[a0, some (.lst (sDs ws)), some (.cell st.length), none, none], st ++ [.lst []]⟩ =
    .ok (.nx ⟨[a0, some (.lst (sDs ws)), some (.cell st.length), x3, x4], st ++ [.lst (sDs ns)]⟩) := by
  have turn : ∀ (ns : List Str) (x : D) (r : RE), x ∈ (fDic fs).map kvPair → FltsInv st a0 (some (.lst (sDs ws))) fs ns r → ∃ r1 r2, stUnp 2 (stCons (stName 3) (stCons (stName 4) stNil)) x r = some r1 ∧ (l_checked_faults_1 C r1 = .ok (.nx r2) ∨ l_checked_faults_1 C r1 = .ok (.ct r2)) ∧ FltsInv st a0 (some (.lst (sDs ws))) fs ((fun ns x => match x with | .tup [_, .str n] => addNew ns n | _ => ns) ns x) r2 := by
    rintro ns x r hx ⟨nd, hm, x3, x4, rfl⟩
    obtain ⟨p, hp, rfl⟩ := pair_items hx
    have nd' := addNew_nd (n := p.2) nd
    have hm' : ∀ n ∈ addNew ns p.2, n ∈ fs.map (·.2) := fun n hn => (addNew_mem.mp hn).elim (hm n) fun e => e ▸ List.mem_map.mpr ⟨p, hp, rfl⟩
    have t := faults_turn (C := C) (st := st) (a0 := a0) (w := p.1) (n := p.2) (ws := ws) (ns := ns) (h.okw p hp) (h.okn p hp) (h.sub p hp) (h.few _ nd' hm') rfl
    exact ⟨_, _, st_pair, .inl t, nd', hm', _, _, rfl⟩
  obtain ⟨r', h1, _, _, x3, x4, e⟩ := loop_fold (FltsInv st a0 (some (.lst (sDs ws))) fs) (fun ns x => match x with | .tup [_, .str n] => addNew ns n | _ => ns) turn (a := []) (r := ⟨[a0, some (.lst (sDs ws)), some (.cell st.length), none, none], st ++ [.lst []]⟩) ⟨by simp, (fun n hn => by simp at hn), none, none, rfl⟩
  subst e
  exact ⟨_, x3, x4, h1⟩
/-- what a machine keeps of its faults -/
def keepF (fs : List (Str × Str)) (ws : List Str) : List (Str × Str) := (ws.filter fun w => decide (w ∈ fs.map (·.1))).map fun w => (w, look fs w)
theorem faults_comp {fs : List (Str × Str)} {ws : List Str} {s0 : List (Option D)} {a0 : D} (h : Flts fs ws) (hs : s0 = [some a0, some (.lst (sDs ws)), some (.cell st.length), none, s0.getD 4 none]) (hd : ∀ l, dr (st ++ l) a0 = some (.dic (fDic fs))) {l : Sto} :
    mCompG s0 (stName 3) (l_checked_faults_2 C) (l_checked_faults_3 C) appD (sDs ws) (st ++ l) [] = .ok (fDic (keepF fs ws), st ++ l) := by
  rw [hs]
  refine compG_map (fun d => match d with | .str w => decide (w ∈ fs.map (·.1)) | _ => false) (fun d => match d with | .str w => [.str w, .str (look fs w)] | _ => []) (sDs ws) [] _ (fun x hx => ?_) ?_
  · obtain ⟨w, hw, rfl⟩ := List.mem_map.mp hx
    have hv := fDic_has (fs := fs) (w := w)
    refine ⟨_, ⟨[some a0, some (.lst (sDs ws)), some (.cell st.length), some (.str w), s0.getD 4 none], st ++ l⟩, rfl, ?_, rfl, fun hp => ⟨⟨[some a0, some (.lst (sDs ws)), some (.cell st.length), some (.str w), s0.getD 4 none], st ++ l⟩, ?_, rfl⟩⟩
    · have hd' := hd l
      simp [-dr, l_checked_faults_2, hd', hasIn, hv]
    · have hd' := hd l
      have hm : w ∈ fs.map (·.1) := of_decide_eq_true hp
      have hg := fDic_look hm
      simp [-dr, l_checked_faults_3, hd', getA, hg]
  · have e : ((sDs ws).filter fun d => match d with | .str w => decide (w ∈ fs.map (·.1)) | _ => false).map (fun d => match d with | .str w => [.str w, .str (look fs w)] | _ => []) = (fDic (keepF fs ws)).map fun p => [ofKey p.1, p.2] := by
      unfold keepF
      simp only [sDs, fDic, List.filter_map, List.map_map]
      rfl
    rw [e]
    refine (foldA_dic _ [] ?_ ?_).trans (by simp)
    · have e2 : (([] : List (Key × D)) ++ fDic (keepF fs ws)).map (·.1) = (ws.filter fun w => decide (w ∈ fs.map (·.1))).map fun w => (.inr w : Key) := by
        unfold keepF
        simp only [fDic, List.nil_append, List.map_map]
        rfl
      rw [e2]
      exact nodup_map (fun a b e => by cases e; rfl) (h.wnd.filter _)
    · have := h.len
      have h2 := List.length_filter_le (fun w => decide (w ∈ fs.map (·.1))) ws
      simp only [keepF, fDic, List.nil_append, List.length_map]
      omega
theorem okC_fDic {n : Nat} : ∀ fs : List (Str × Str), okCK n (fDic fs) = true
  | [] => rfl
  | p :: fs => by simp only [fDic, List.map_cons, okCK, okC]; exact Bool.and_eq_true_iff.mpr ⟨rfl, okC_fDic fs⟩
theorem p_faults_d {fs : List (Str × Str)} {ws : List Str} (h : Flts fs ws) : f_checked_faults C [.dic (fDic fs), .lst (sDs ws)] st = .ok (.dic (fDic (keepF fs ws)), st) := by
  obtain ⟨ns, x3, x4, e⟩ := faults_loop (C := C) (st := st) (a0 := some (.dic (fDic fs))) h
  refine cut_pure (j := [.lst (sDs ns)]) ?_ (okC_fDic _)
  have c := faults_comp (C := C) (st := st) (fs := fs) (ws := ws) (a0 := .dic (fDic fs)) (s0 := [some (.dic (fDic fs)), some (.lst (sDs ws)), some (.cell st.length), none, x4]) h rfl (fun _ => rfl) (l := [.lst (sDs ns)])
  simp [-List.map_map, k_checked_faults, b_checked_faults]
  rw [e]
  simp [c]
theorem p_faults_c {fs : List (Str × Str)} {ws : List Str} {k : Nat} (h : Flts fs ws) (hk : Has st k (.dic (fDic fs))) : f_checked_faults C [.cell k, .lst (sDs ws)] st = .ok (.dic (fDic (keepF fs ws)), st) := by
  obtain ⟨ns, x3, x4, e⟩ := faults_loop (C := C) (st := st.set k (.lck (.dic (fDic fs)))) (a0 := some (.cell k)) h
  rw [List.length_set] at e
  refine cut_pure (j := [.lst (sDs ns)]) ?_ (okC_fDic _)
  have c := faults_comp (C := C) (st := st) (fs := fs) (ws := ws) (a0 := .cell k) (s0 := [some (.cell k), some (.lst (sDs ws)), some (.cell st.length), none, x4]) h rfl (fun l => dr_cell (hk.app l) fun e => by simp) (l := [.lst (sDs ns)])
  simp [-List.map_map, k_checked_faults, b_checked_faults, hk.get, hk.app, hk.set]
  rw [e]
  simp [(hk.at _).set, hk.back, c]
theorem p_faults_n {ws : D} : f_checked_faults C [.non, ws] st = .ok (.dic [], st) := cut_pure0 (by simp [k_checked_faults, b_checked_faults]) rfl
end Lm
set_option maxHeartbeats 1000000
namespace Lm
open PySem L2 Mir
variable {C : Cl} {st : Sto}
/-! ## the laws' numbers -/
def mix1 (c k : Int) : Int := (c + 7919 * k + 1) * 48271 % 2147483647
def mix2 (n : Int) : Int := n * (n / 1009 + 69621) % 2147483647
def mix3 (n : Int) : Int := n * (n / 2003 + 40692) % 2147483399
def mixI (c k : Int) : Int := mix3 (mix2 (mix1 c k))
theorem p_mix (c k : Int) : f_law_mix C [.int c, .int k] st = .ok (.int (mixI c k), st) := by
  refine cut_pure0 ?_ rfl
  have a1 : 0 ≤ mix1 c k ∧ mix1 c k < 2147483647 := ⟨Int.emod_nonneg _ (by decide), Int.emod_lt_of_pos _ (by decide)⟩
  have a2 : 0 ≤ mix2 (mix1 c k) ∧ mix2 (mix1 c k) < 2147483647 := ⟨Int.emod_nonneg _ (by decide), Int.emod_lt_of_pos _ (by decide)⟩
  have b1 : -10000000000000000000 < mix1 c k := by omega
  have b2 : mix1 c k < 10000000000000000000 := by omega
  have b3 : -10000000000000000000 < mix2 (mix1 c k) := by omega
  have b4 : mix2 (mix1 c k) < 10000000000000000000 := by omega
  unfold mixI mix3
  have e1 : (c + 7919 * k + 1) * 48271 % 2147483647 = mix1 c k := rfl
  have e2 : mix1 c k * (mix1 c k / 1009 + 69621) % 2147483647 = mix2 (mix1 c k) := rfl
  simp [k_law_mix, b_law_mix, e1, b1, b2, e2, b3, b4]
theorem p_cell (ns : List Int) (k : Nat) : ∃ i, ∀ st, f_law_cell C [.frl (ns.map D.int), .int k] st = .ok (.int i, st) := by
  by_cases h : k < ns.length
  · have h' : (k : Int) < (ns.length : Int) := by omega
    obtain ⟨x, h1, h2⟩ := atI_in (xs := ns.map D.int) (i := (k : Int)) (by omega) (by rw [List.length_map]; exact h')
    rw [List.getElem?_map] at h2
    have h3 : ns[(k : Int).toNat]? = some ns[k] := by rw [Int.toNat_natCast]; exact List.getElem?_eq_getElem h
    rw [h3] at h2
    cases h2
    exact ⟨ns[k], fun st => cut_pure0 (by simp [k_law_cell, b_law_cell, h', h1]) rfl⟩
  · have h' : ¬ (k : Int) < (ns.length : Int) := by omega
    by_cases h0 : ns = []
    · subst h0
      have h2 : ¬ (k : Int) < 0 := by omega
      exact ⟨k, fun st => cut_pure0 (by simp [k_law_cell, b_law_cell, h2, eqOk, eqD, scalD]) rfl⟩
    · have hl : 0 < ns.length := List.length_pos_iff.mpr h0
      have hl0 : ¬ ns.length = 0 := by omega
      have m1 : 0 ≤ (k : Int) % (ns.length : Int) := Int.emod_nonneg _ (by omega)
      have m2 : (k : Int) % (ns.length : Int) < (ns.length : Int) := Int.emod_lt_of_pos _ (by omega)
      obtain ⟨x, h1, h2⟩ := atI_in (xs := ns.map D.int) m1 (by rw [List.length_map]; exact m2)
      obtain ⟨y, _, rfl⟩ : ∃ y, y ∈ ns ∧ D.int y = x := List.mem_map.mp (List.mem_of_getElem? h2)
      have hl' : (0 : Int) < (ns.length : Int) := by omega
      exact ⟨mixI y k, fun st => cut_pure0 (by simp [k_law_cell, b_law_cell, h', h0, hl0, hl, h1, p_mix, eqOk, eqD, scalD]) rfl⟩
abbrev jDs (l : List Int) : List D := l.map D.int
/-- row fits sizes -/
def Fit (row sizes : List Int) : Prop := row.length = sizes.length ∧ ∀ (k : Nat) (x s : Int), row[k]? = some x → sizes[k]? = some s → 0 ≤ x ∧ x < s
theorem row_turn {c rest s : Int} {sizes acc : List Int} {k : Nat} {a1 x4 : Option D} (hs : sizes[k]? = some s) (h0 : 0 < s) (h1 : s < 1073741824) (hl : acc.length < 1000) (ha : a1 = some (.lst (jDs sizes))) :
    ∃ x rest', 0 ≤ x ∧ x < s ∧ ∀ st, l_law_row_1 C ⟨[some (.int c), a1, some (.cell st.length), some (.int rest), some (.int (k : Nat))], st ++ [.lst (jDs acc)]⟩ = .ok (.nx ⟨[some (.int c), a1, some (.cell st.length), some (.int rest'), some (.int (k : Nat))], st ++ [.lst (jDs (acc ++ [x]))]⟩) := by
  subst ha
  have e : atI (jDs sizes) (k : Nat) = some (.int s) := atI_nat (by rw [List.getElem?_map, hs]; rfl)
  have hl' : acc.length < 1000000 := by omega
  by_cases hc : c ≥ 10 ^ 18
  · have hc' : (1000000000000000000 : Int) ≤ c := by simpa using hc
    refine ⟨rest % s, rest / s, Int.emod_nonneg _ (by omega), Int.emod_lt_of_pos _ h0, fun st => ?_⟩
    simp [l_law_row_1, e, h0, h1, hl', hc']
  · have hc' : ¬ (1000000000000000000 : Int) ≤ c := by simpa using hc
    refine ⟨mixI c k % s, rest, Int.emod_nonneg _ (by omega), Int.emod_lt_of_pos _ h0, fun st => ?_⟩
    simp [l_law_row_1, e, h0, h1, hl', hc', p_mix]
theorem range_drop {n k : Nat} (h : k < n) : (rangeD 0 n).drop k = .int (k : Nat) :: (rangeD 0 n).drop (k + 1) := by
  have hk : k < (rangeD 0 n).length := by rw [rangeD_len]; exact h
  rw [List.drop_eq_getElem_cons hk]
  have := rangeD_get (lo := 0) h
  rw [List.getElem?_eq_getElem hk] at this
  rw [Option.some.inj this, Int.zero_add]
theorem row_loop {c : Int} {sizes : List Int} (hp : ∀ s ∈ sizes, 0 < s ∧ s < 1073741824) (hn : sizes.length < 900) : ∀ (n k : Nat) (acc : List Int) (rest : Int), k + n = sizes.length → acc.length = k → ∃ more rest', more.length = n ∧ (∀ (j : Nat) (x s : Int), more[j]? = some x → sizes[k + j]? = some s → 0 ≤ x ∧ x < s) ∧
    ∀ st x4, ∃ y4, mLoop (stName 4) (l_law_row_1 C) ((rangeD 0 sizes.length).drop k) ⟨[some (.int c), some (.lst (jDs sizes)), some (.cell st.length), some (.int rest), x4], st ++ [.lst (jDs acc)]⟩ = .ok (.nx ⟨[some (.int c), some (.lst (jDs sizes)), some (.cell st.length), some (.int rest'), y4], st ++ [.lst (jDs (acc ++ more))]⟩)
  | 0, k, acc, rest, hk, ha => by
    refine ⟨[], rest, rfl, fun j x s h => by simp at h, fun st x4 => ⟨x4, ?_⟩⟩
    rw [List.drop_of_length_le (by rw [rangeD_len]; omega), List.append_nil]
    rfl
  | n + 1, k, acc, rest, hk, ha => by
    have hlt : k < sizes.length := by omega
    have hs : sizes[k]? = some sizes[k] := List.getElem?_eq_getElem hlt
    obtain ⟨h0, h1⟩ := hp sizes[k] (List.getElem_mem hlt)
    obtain ⟨x, rest1, x0, x1, t⟩ := row_turn (C := C) (c := c) (rest := rest) (acc := acc) (x4 := none) (a1 := some (.lst (jDs sizes))) hs h0 h1 (by omega) rfl
    obtain ⟨more, rest', m1, m2, e⟩ := row_loop hp hn n (k + 1) (acc ++ [x]) rest1 (by omega) (by simp [ha])
    refine ⟨x :: more, rest', by simp [m1], fun j y s hy hj => ?_, fun st x4 => ?_⟩
    · cases j with
      | zero =>
        simp at hy hj
        subst hy
        rw [hs] at hj
        cases hj
        exact ⟨x0, x1⟩
      | succ j =>
        exact m2 j y s (by simpa using hy) (by rw [show k + 1 + j = k + (j + 1) by omega]; exact hj)
    · obtain ⟨y4, e4⟩ := e st (some (.int (k : Nat)))
      refine ⟨y4, ?_⟩
      rw [range_drop hlt, loop_cons (st := stName 4) rfl (t st), e4, List.append_assoc]
      rfl
theorem okCL_j {n : Nat} : ∀ l : List Int, okCL n (jDs l) = true
  | [] => rfl
  | s :: l => by simp only [jDs, List.map_cons, okCL, okC]; exact Bool.and_eq_true_iff.mpr ⟨rfl, okCL_j l⟩
theorem p_row (c : Int) (sizes : List Int) (hp : ∀ s ∈ sizes, 0 < s ∧ s < 1073741824) (hn : sizes.length < 900) : ∃ row, Fit row sizes ∧ ∀ st, f_law_row C [.int c, .lst (jDs sizes)] st = .ok (.lst (jDs row), st) := by
  obtain ⟨row, rest', h1, h2, e⟩ := row_loop (C := C) (c := c) hp hn sizes.length 0 [] c (by omega) rfl
  refine ⟨row, ⟨h1, fun k x s hx hs => h2 k x s hx (by rw [Nat.zero_add]; exact hs)⟩, fun st => ?_⟩
  obtain ⟨y4, e4⟩ := e st none
  rw [List.drop_zero, List.nil_append] at e4
  have l1 : sizes.length ≤ 1000000 := by omega
  have l2 : (-1000000 : Int) ≤ (sizes.length : Int) := by omega
  have l3 : (sizes.length : Int) ≤ 1000000 := by omega
  refine cut_rsv (d := .cell st.length) (j := [.lst (jDs row)]) ?_ ?_
  · have e5 : mLoop (stName 4) (l_law_row_1 C) (rangeD 0 sizes.length) ⟨[some (.int c), some (.lst (jDs sizes)), some (.cell st.length), some (.int c), none], st ++ [.lst []]⟩ = _ := e4
    simp [k_law_row, b_law_row, l1, l2, l3]
    rw [e5]
    simp
  · rw [rsv_cell (d := .lst (jDs row)) (Nat.lt_irrefl _) (get_0 _ _ _)]
    exact rsv_ok (okCL_j row)
end Lm
set_option maxHeartbeats 1000000
namespace Lm
open PySem L2 Mir
variable {C : Cl} {st : Sto}
/-! ## _law_names -/
theorem lo_at {i : Int} (h0 : 0 ≤ i) (h1 : i < 13) : atI (Str.ofString "abcdefghijklm").cps.toList i = some (97 + i.toNat) := by
  have : ∀ k < 13, (Str.ofString "abcdefghijklm").cps.toList[k]? = some (97 + k) := by decide +kernel
  have e := atI_nat (this i.toNat (by omega))
  rw [show ((i.toNat : Nat) : Int) = i by omega] at e
  exact e
theorem hi_at {i : Int} (h0 : 0 ≤ i) (h1 : i < 13) : atI (Str.ofString "nopqrstuvwxyz").cps.toList i = some (110 + i.toNat) := by
  have : ∀ k < 13, (Str.ofString "nopqrstuvwxyz").cps.toList[k]? = some (110 + k) := by decide +kernel
  have e := atI_nat (this i.toNat (by omega))
  rw [show ((i.toNat : Nat) : Int) = i by omega] at e
  exact e
theorem letter_in {c : Nat} (h0 : 97 ≤ c) (h1 : c ≤ 122) : c ∈ letters.cps.toList := by
  have : ∀ k < 26, (97 + k) ∈ letters.cps.toList := by decide +kernel
  have := this (c - 97) (by omega)
  rwa [show 97 + (c - 97) = c by omega] at this
def chr (i : Int) : Str := ⟨#[97 + i.toNat]⟩
def textOf (ds : List Int) : Str := Str.join (Str.ofString "") (ds.map chr)
theorem cl_text (ds : List Int) : cl (textOf ds) = ds.map fun i => 97 + i.toNat := by
  unfold textOf
  rw [cl_join, List.map_map]
  induction ds with
  | nil => rfl
  | cons d ds ih => simp only [List.map_cons, List.flatten_cons, ih]; rfl
theorem text_len (ds : List Int) : (textOf ds).length = ds.length := by
  rw [← cl_len, cl_text, List.length_map]
theorem strsD_chr : ∀ ds : List Int, strsD (ds.map fun i => D.str (chr i)) = some (ds.map chr)
  | [] => rfl
  | d :: ds => by simp only [List.map_cons, strsD, strsD_chr ds, Option.map_some]
theorem sum_chr : ∀ ds : List Int, ((ds.map chr).map (·.length)).sum = ds.length
  | [] => rfl
  | d :: ds => by
    have := sum_chr ds
    simp only [List.map_cons, List.sum_cons, this, List.length_cons]
    show 1 + _ = _
    omega
theorem l0 : (Str.ofString "").length = 0 := by decide +kernel
theorem l13 : (Str.ofString "abcdefghijklm").length = 13 := by decide +kernel
theorem l13' : (Str.ofString "nopqrstuvwxyz").length = 13 := by decide +kernel
theorem text_comp {s0 : List (Option D)} {so : Sto} {ds : List Int} (h9 : 9 < s0.length) (hd : ∀ i ∈ ds, 0 ≤ i ∧ i < 13) (hl : ds.length ≤ 10) : mCompL s0 (stName 9) (l_law_names_1 C) (l_law_names_2 C) (jDs ds) so [] = .ok (ds.map fun i => D.str (chr i), so) := by
  have e : (ds.map fun i => D.str (chr i)) = (jDs ds).map fun d => match d with | .int i => D.str (chr i) | _ => .non := by
    rw [List.map_map]; rfl
  rw [e]
  refine comp_all _ (jDs ds) (fun x hx => ?_) (by rw [List.length_map]; omega)
  obtain ⟨i, hi, rfl⟩ := List.mem_map.mp hx
  obtain ⟨h0, h1⟩ := hd i hi
  have g : (s0.set 9 (some (.int i)))[9]? = some (some (.int i)) := List.getElem?_set_self h9
  refine ⟨⟨s0.set 9 (some (.int i)), so⟩, ⟨s0.set 9 (some (.int i)), so⟩, ⟨s0.set 9 (some (.int i)), so⟩, rfl, rfl, rfl, ?_, rfl⟩
  have a := lo_at h0 h1
  have z : (Str.ofString "abcdefghijklm").length ≤ 1000000 := by rw [l13]; omega
  simp [l_law_names_2, g, z, chr, a]
/-- a name: a text with one sign of n .. z in it -/
structure NameIs (x : Str) (c : Nat) : Prop where
  ok : okNm x = true
  hi : (cl x).filter (fun k => decide (110 ≤ k)) = [c]
def nameOf (ds : List Int) (a : Nat) (c : Nat) : Str := cutS (textOf ds) none (some (a : Int)) ++ (⟨#[c]⟩ : Str) ++ cutS (textOf ds) (some (a : Int)) none
theorem cl_name {ds : List Int} {a c : Nat} (h : a ≤ ds.length) : cl (nameOf ds a c) = ((ds.map fun i => 97 + i.toNat).take a) ++ c :: (ds.map fun i => 97 + i.toNat).drop a := by
  have h' : a ≤ (textOf ds).length := by rw [text_len]; exact h
  unfold nameOf
  rw [cl_app, cl_app, cl_take _ _ h', cl_drop _ _ h', cl_text, cl_one, List.append_assoc]
  rfl
theorem name_is {ds : List Int} {a c : Nat} (h : a ≤ ds.length) (hl : ds.length ≤ 10) (hd : ∀ i ∈ ds, 0 ≤ i ∧ i < 13) (h0 : 110 ≤ c) (h1 : c ≤ 122) : NameIs (nameOf ds a c) c := by
  have e := cl_name (c := c) h
  have small : ∀ k ∈ ds.map (fun i => 97 + i.toNat), 97 ≤ k ∧ k < 110 := fun k hk => by
    obtain ⟨i, hi, rfl⟩ := List.mem_map.mp hk
    have := hd i hi
    omega
  constructor
  · unfold okNm okLen allLet
    have hlen : (nameOf ds a c).length = ds.length + 1 := by
      rw [← cl_len, e]
      simp
      omega
    rw [hlen, Bool.and_eq_true, Bool.and_eq_true]
    refine ⟨⟨decide_eq_true (by omega), decide_eq_true (by omega)⟩, ?_⟩
    rw [show (nameOf ds a c).cps.toList = _ from e, List.all_eq_true]
    intro k hk
    refine decide_eq_true ?_
    rcases List.mem_append.mp hk with z | z
    · have := small k (List.mem_of_mem_take z)
      exact letter_in (by omega) (by omega)
    · rcases List.mem_cons.mp z with z | z
      · subst z; exact letter_in (by omega) h1
      · have := small k (List.mem_of_mem_drop z)
        exact letter_in (by omega) (by omega)
  · rw [e, List.filter_append, List.filter_cons_of_pos (by simpa using h0)]
    have z1 : ((ds.map fun i => 97 + i.toNat).take a).filter (fun k => decide (110 ≤ k)) = [] := by
      rw [List.filter_eq_nil_iff]
      intro k hk
      have := small k (List.mem_of_mem_take hk)
      simp; omega
    have z2 : ((ds.map fun i => 97 + i.toNat).drop a).filter (fun k => decide (110 ≤ k)) = [] := by
      rw [List.filter_eq_nil_iff]
      intro k hk
      have := small k (List.mem_of_mem_drop hk)
      simp; omega
    rw [z1, z2]
    rfl
end Lm
set_option maxHeartbeats 400000
namespace Lm
open PySem L2 Mir
variable {C : Cl} {st : Sto}
/-- the six numbers of a name -/
structure Own (own : List Int) (o : Int) (ds : List Int) : Prop where
  eq : own = o :: ds
  o0 : 0 ≤ o
  o1 : o < 6
  len : ds.length = 5
  sm : ∀ i ∈ ds, 0 ≤ i ∧ i < 13
theorem names_mid {row : List Int} {own ds : List Int} {o r0 r1 r2 : Int} {rest : List Int} {k : Nat} {nms : List Str} (hr : row = r0 :: r1 :: r2 :: rest) (ho : Own own o ds) (h0 : 0 ≤ r0) (h2 : 0 ≤ r2) (hk : k < 1000) (hn : nms.length < 1000) :
    ∃ nm y6 y7 y8, NameIs nm (110 + ((r0 + 5 * k) % 13).toNat) ∧ ∀ (st : Sto) (x0 x1 x6 x7 x8 x9 : Option D), (mSeq (mSet 6 (mOp1 (dJoin (Str.ofString "")) (mComp [9] (mItem asQ (mCut dCut (mVar 5) (mPart (mC (.int 1))) (mPart (mOp2 dAdd (mC (.int 1)) (mOp2 dIxA (mVar 5) (mC (.int 0))))))) (stName 9) (l_law_names_1 C) (l_law_names_2 C))))
        (mSeq (mSet 7 (mOp2 dMod (mArgs (d1 dInt) (mCons (mOp2 dIxA (mVar 2) (mC (.int 2))) mNil)) (mOp2 dAdd (mArgs (d1 dLenA) (mCons (mVar 6) mNil)) (mC (.int 1)))))
        (mSeq (mSet 8 (mOp2 dIxA (mC (.str (Str.ofString "nopqrstuvwxyz"))) (mOp2 dMod (mArgs (d1 dInt) (mCons (mOp2 dAdd (mOp2 dIxA (mVar 2) (mC (.int 0))) (mOp2 dMul (mC (.int 5)) (mVar 4))) mNil)) (mC (.int 13)))))
        (mDrop (mMut (mVar 3) "list" fAppend (mCons (mOp2 dAdd (mOp2 dAdd (mCut dCutS (mVar 6) mNoP (mPart (mVar 7))) (mVar 8)) (mCut dCutS (mVar 6) (mPart (mVar 7)) mNoP)) mNil))))))
      ⟨[x0, x1, some (.lst (jDs row)), some (.cell st.length), some (.int (k : Nat)), some (.lst (jDs own)), x6, x7, x8, x9], st ++ [.lst (sDs nms)]⟩ =
      .ok (.nx ⟨[x0, x1, some (.lst (jDs row)), some (.cell st.length), some (.int (k : Nat)), some (.lst (jDs own)), y6, y7, y8, x9], st ++ [.lst (sDs (nms ++ [nm]))]⟩) := by
  obtain ⟨rfl, o0, o1, len, sm⟩ := ho
  subst hr
  have hd : ∀ i ∈ ds.take o.toNat, 0 ≤ i ∧ i < 13 := fun i hi => sm i (List.mem_of_mem_take hi)
  have hl : (ds.take o.toNat).length = o.toNat := by rw [List.length_take]; omega
  have hcut : cutD (.int o :: jDs ds) (some 1) (some (1 + o)) = jDs (ds.take o.toNat) := by
    have := cutD_nat (xs := .int o :: jDs ds) (a := 1) (b := 1 + o.toNat) (by omega) (by simp; omega)
    rw [show ((1 + o.toNat : Nat) : Int) = 1 + o by omega] at this
    refine Eq.trans this ?_
    simp [List.map_take]
  generalize ds.take o.toNat = ts at hd hl hcut
  have ht : (textOf ts).length = o.toNat := by rw [text_len, hl]
  have z1 : (textOf ts).length ≤ 1000000 := by omega
  have hs := strsD_chr ts
  have hj := sum_chr ts
  have z2 : 0 < ((textOf ts).length : Int) + 1 := by omega
  have z3 : ((textOf ts).length : Int) + 1 < 1073741824 := by omega
  have m0 : 0 ≤ r2 % (((textOf ts).length : Int) + 1) := Int.emod_nonneg _ (by omega)
  have m1 : r2 % (((textOf ts).length : Int) + 1) < ((textOf ts).length : Int) + 1 := Int.emod_lt_of_pos _ z2
  obtain ⟨a, ha⟩ : ∃ a : Nat, r2 % (((textOf ts).length : Int) + 1) = (a : Int) := ⟨(r2 % (((textOf ts).length : Int) + 1)).toNat, by omega⟩
  have q0 : 0 ≤ (r0 + 5 * (k : Int)) % 13 := Int.emod_nonneg _ (by omega)
  have q1 : (r0 + 5 * (k : Int)) % 13 < 13 := Int.emod_lt_of_pos _ (by omega)
  have hc := hi_at q0 q1
  have z : (Str.ofString "nopqrstuvwxyz").length ≤ 1000000 := by rw [l13']; omega
  have hal : a ≤ ts.length := by rw [hl]; omega
  refine ⟨nameOf ts a (110 + ((r0 + 5 * k) % 13).toNat), some (.str (textOf ts)), some (.int a), some (.str ⟨#[110 + ((r0 + 5 * k) % 13).toNat]⟩), name_is hal (by omega) hd (by omega) (by omega), fun st x0 x1 x6 x7 x8 x9 => ?_⟩
  have hn' : nms.length < 1000000 := by omega
  have hj' : ((ts.map chr).map (·.length)).sum + (ts.map chr).length * (Str.ofString "").length ≤ 1000000 := by
    rw [hj, l0]; omega
  have tc := text_comp (C := C) (s0 := [x0, x1, some (.lst (.int r0 :: .int r1 :: .int r2 :: rest.map D.int)), some (.cell st.length), some (.int (k : Nat)), some (.lst (.int o :: ds.map D.int)), x6, x7, x8, none]) (so := st ++ [.lst (sDs nms)]) (by simp) hd (by omega)
  have j1 : dJoin (Str.ofString "") (.lst (ts.map fun i => D.str (chr i))) = .ok (.str (textOf ts)) := by
    simp only [dJoin, hs]
    rw [if_pos hj']
    rfl
  have c1 : dCutS (.str (textOf ts)) none (some (a : Int)) = .ok (.str (cutS (textOf ts) none (some (a : Int)))) := by simp [z1]
  have c2 : dCutS (.str (textOf ts)) (some (a : Int)) none = .ok (.str (cutS (textOf ts) (some (a : Int)) none)) := by simp [z1]
  have lt1 : (cutS (textOf ts) none (some (a : Int))).length ≤ 1000 := by
    rw [← cl_len, cl_take _ _ (by rw [text_len]; exact hal), List.length_take, cl_len]; omega
  have lt2 : (cutS (textOf ts) (some (a : Int)) none).length ≤ 1000 := by
    rw [← cl_len, cl_drop _ _ (by rw [text_len]; exact hal), List.length_drop, cl_len]; omega
  have k1 : (cutS (textOf ts) none (some (a : Int))).length + (⟨#[110 + ((r0 + 5 * (k : Int)) % 13).toNat]⟩ : Str).length ≤ 1000000 := by
    have : (⟨#[110 + ((r0 + 5 * (k : Int)) % 13).toNat]⟩ : Str).length = 1 := rfl
    omega
  have k2 : (cutS (textOf ts) none (some (a : Int)) ++ (⟨#[110 + ((r0 + 5 * (k : Int)) % 13).toNat]⟩ : Str)).length + (cutS (textOf ts) (some (a : Int)) none).length ≤ 1000000 := by
    have : (⟨#[110 + ((r0 + 5 * (k : Int)) % 13).toNat]⟩ : Str).length = 1 := rfl
    rw [len_app]
    omega
  simp [-dJoin, -dCutS, hcut, tc, j1, z1, z2, z3, ha, hc, z, c1, c2, k1, k2, hn', nameOf]
theorem seq_nx {a b : RE → Out Fl} {r r' : RE} (h : a r = .ok (.nx r')) : mSeq a b r = b r' := by simp [h]
theorem names_turn {row : List Int} {own0 own1 ds0 ds1 : List Int} {o0 o1 r0 r1 r2 : Int} {rest : List Int} {k : Nat} {nms : List Str} (hr : row = r0 :: r1 :: r2 :: rest) (e0 : (row.drop (3 + 6 * k)).take 6 = own0) (ho : Own own0 o0 ds0) (e1 : (row.drop 3).take 6 = own1) (ho1 : Own own1 o1 ds1) (hl : 9 + 6 * k ≤ row.length) (h0 : 0 ≤ r0) (h2 : 0 ≤ r2) (hk : k < 1000) (hn : nms.length < 1000) :
    ∃ nm y5 y6 y7 y8, NameIs nm (110 + ((r0 + 5 * k) % 13).toNat) ∧ ∀ (st : Sto) (x0 x1 x5 x6 x7 x8 x9 : Option D), l_law_names_3 C ⟨[x0, x1, some (.lst (jDs row)), some (.cell st.length), some (.int (k : Nat)), x5, x6, x7, x8, x9], st ++ [.lst (sDs nms)]⟩ =
      .ok (.nx ⟨[x0, x1, some (.lst (jDs row)), some (.cell st.length), some (.int (k : Nat)), y5, y6, y7, y8, x9], st ++ [.lst (sDs (nms ++ [nm]))]⟩) := by
  have c0 : cutD (jDs row) (some (3 + 6 * (k : Int))) (some (9 + 6 * (k : Int))) = jDs own0 := by
    have := cutD_nat (xs := jDs row) (a := 3 + 6 * k) (b := 9 + 6 * k) (by omega) (by rw [List.length_map]; exact hl)
    rw [show ((3 + 6 * k : Nat) : Int) = 3 + 6 * (k : Int) by omega, show ((9 + 6 * k : Nat) : Int) = 9 + 6 * (k : Int) by omega, show 9 + 6 * k - (3 + 6 * k) = 6 by omega] at this
    rw [this, ← e0]; simp [jDs]
  have c1 : cutD (jDs row) (some 3) (some 9) = jDs own1 := by
    have := cutD_nat (xs := jDs row) (a := 3) (b := 9) (by omega) (by rw [List.length_map]; omega)
    refine Eq.trans this ?_
    rw [← e1]; simp [jDs]
  have hr1 : atI (jDs row) 1 = some (.int r1) := by rw [hr]; exact atI_1 _ _ _
  by_cases h1 : r1 = 1
  · obtain ⟨nm, y6, y7, y8, hN, e⟩ := names_mid (C := C) (nms := nms) (k := k) hr ho1 h0 h2 hk hn
    refine ⟨nm, some (.lst (jDs own1)), y6, y7, y8, hN, fun st x0 x1 x5 x6 x7 x8 x9 => ?_⟩
    rw [l_law_names_3, seq_nx (r' := ⟨[x0, x1, some (.lst (jDs row)), some (.cell st.length), some (.int (k : Nat)), some (.lst (jDs own0)), x6, x7, x8, x9], st ++ [.lst (sDs nms)]⟩) (by simp [c0]),
      seq_nx (r' := ⟨[x0, x1, some (.lst (jDs row)), some (.cell st.length), some (.int (k : Nat)), some (.lst (jDs own1)), x6, x7, x8, x9], st ++ [.lst (sDs nms)]⟩) (by simp [c1, hr1, h1, eqOk, eqD, scalD])]
    exact e st x0 x1 x6 x7 x8 x9
  · obtain ⟨nm, y6, y7, y8, hN, e⟩ := names_mid (C := C) (nms := nms) (k := k) hr ho h0 h2 hk hn
    refine ⟨nm, some (.lst (jDs own0)), y6, y7, y8, hN, fun st x0 x1 x5 x6 x7 x8 x9 => ?_⟩
    rw [l_law_names_3, seq_nx (r' := ⟨[x0, x1, some (.lst (jDs row)), some (.cell st.length), some (.int (k : Nat)), some (.lst (jDs own0)), x6, x7, x8, x9], st ++ [.lst (sDs nms)]⟩) (by simp [c0]),
      seq_nx (r' := ⟨[x0, x1, some (.lst (jDs row)), some (.cell st.length), some (.int (k : Nat)), some (.lst (jDs own0)), x6, x7, x8, x9], st ++ [.lst (sDs nms)]⟩) (by simp [hr1, h1, eqOk, eqD, scalD])]
    exact e st x0 x1 x6 x7 x8 x9
/-- names that are told apart by their signs of n .. z -/
structure Names (nms : List Str) (many : Nat) : Prop where
  nz : ∀ x ∈ nms, x ≠ Str.ofString "zz"
  len : nms.length = many
  nd : nms.Nodup
  ok : ∀ x ∈ nms, okNm x = true
def sizesN (many : Nat) : List Int := [13, 2, 6] ++ (List.replicate many [6, 13, 13, 13, 13, 13]).flatten
theorem rep_len (many : Nat) : ((List.replicate many ([6, 13, 13, 13, 13, 13] : List Int)).flatten).length = 6 * many := by
  induction many with
  | zero => rfl
  | succ n ih => rw [List.replicate_succ, List.flatten_cons, List.length_append, ih]; simp; omega
theorem rep_at (many k j : Nat) (hk : k < many) (hj : j < 6) : ((List.replicate many ([6, 13, 13, 13, 13, 13] : List Int)).flatten)[6 * k + j]? = ([6, 13, 13, 13, 13, 13] : List Int)[j]? := by
  induction many generalizing k with
  | zero => omega
  | succ n ih =>
    rw [List.replicate_succ, List.flatten_cons]
    cases k with
    | zero => rw [List.getElem?_append_left (by simp; omega)]; simp
    | succ k =>
      rw [List.getElem?_append_right (by simp; omega)]
      have := ih k (by omega)
      rw [← this]
      congr 1
      simp
      omega
theorem own_of {row : List Int} {many k : Nat} (h : Fit row (sizesN many)) (hk : k < many) : ∃ own o ds, (row.drop (3 + 6 * k)).take 6 = own ∧ Own own o ds := by
  obtain ⟨hl, hf⟩ := h
  have hlen : (sizesN many).length = 3 + 6 * many := by simp only [sizesN, List.length_append, rep_len]; rfl
  have sat : ∀ j, j < 6 → (sizesN many)[3 + 6 * k + j]? = ([6, 13, 13, 13, 13, 13] : List Int)[j]? := fun j hj => by
    unfold sizesN
    rw [List.getElem?_append_right (by simp; omega)]
    rw [← rep_at many k j hk hj]
    congr 1
    simp
    omega
  have hin : ∀ j, j < 6 → ∃ x, row[3 + 6 * k + j]? = some x := fun j hj => ⟨_, List.getElem?_eq_getElem (by omega)⟩
  have g : ∀ (j : Nat) (x s : Int), j < 6 → row[3 + 6 * k + j]? = some x → ([6, 13, 13, 13, 13, 13] : List Int)[j]? = some s → 0 ≤ x ∧ x < s := fun j x s hj hx hs => hf _ _ _ hx (by rw [sat j hj]; exact hs)
  obtain ⟨a0, h0⟩ := hin 0 (by omega)
  obtain ⟨a1, h1⟩ := hin 1 (by omega)
  obtain ⟨a2, h2⟩ := hin 2 (by omega)
  obtain ⟨a3, h3⟩ := hin 3 (by omega)
  obtain ⟨a4, h4⟩ := hin 4 (by omega)
  obtain ⟨a5, h5⟩ := hin 5 (by omega)
  have e : (row.drop (3 + 6 * k)).take 6 = [a0, a1, a2, a3, a4, a5] := by
    refine List.ext_getElem? fun i => ?_
    rw [List.getElem?_take]
    by_cases hi : i < 6
    · rw [if_pos hi, List.getElem?_drop]
      match i, hi with
      | 0, _ => exact h0
      | 1, _ => exact h1
      | 2, _ => exact h2
      | 3, _ => exact h3
      | 4, _ => exact h4
      | 5, _ => exact h5
    · rw [if_neg hi, List.getElem?_eq_none (by simp; omega)]
  have b0 := g 0 a0 6 (by omega) h0 rfl
  have b1 := g 1 a1 13 (by omega) h1 rfl
  have b2 := g 2 a2 13 (by omega) h2 rfl
  have b3 := g 3 a3 13 (by omega) h3 rfl
  have b4 := g 4 a4 13 (by omega) h4 rfl
  have b5 := g 5 a5 13 (by omega) h5 rfl
  refine ⟨_, a0, [a1, a2, a3, a4, a5], e, rfl, b0.1, b0.2, rfl, fun i hi => ?_⟩
  simp only [List.mem_cons, List.not_mem_nil, or_false] at hi
  rcases hi with rfl | rfl | rfl | rfl | rfl <;> assumption
/-- what is known of the names behind k turns -/
structure NamesTo (r0 : Int) (nms : List Str) (k : Nat) : Prop where
  len : nms.length = k
  is : ∀ (j : Nat) (x : Str), nms[j]? = some x → NameIs x (110 + ((r0 + 5 * j) % 13).toNat)
theorem NamesTo.names {r0 : Int} {nms : List Str} {many : Nat} (h : NamesTo r0 nms many) (hm : many ≤ 13) : Names nms many where
  nz := fun x hx e => by
    obtain ⟨j, hj⟩ := List.getElem?_of_mem hx
    have a := (h.is j x hj).hi
    rw [e, show (cl (Str.ofString "zz")).filter (fun k => decide (110 ≤ k)) = [122, 122] from rfl] at a
    exact absurd (congrArg List.length a) (by simp)
  len := h.len
  ok := fun x hx => by
    obtain ⟨j, hj⟩ := List.getElem?_of_mem hx
    exact (h.is j x hj).ok
  nd := by
    refine List.pairwise_iff_getElem.mpr fun i j hi hj hij e => ?_
    have a := (h.is i _ (List.getElem?_eq_getElem hi)).hi
    have b := (h.is j _ (List.getElem?_eq_getElem hj)).hi
    rw [← e, a] at b
    have c : 110 + ((r0 + 5 * (i : Int)) % 13).toNat = 110 + ((r0 + 5 * (j : Int)) % 13).toNat := by simpa using b
    have hlen := h.len
    omega
theorem names_loop {row : List Int} {many : Nat} {x0 x1 : Option D} {r0 r1 r2 : Int} {rest : List Int} (hf : Fit row (sizesN many)) (hr : row = r0 :: r1 :: r2 :: rest) (h0 : 0 ≤ r0) (h2 : 0 ≤ r2) (hm : many < 900) : ∀ (n k : Nat) (acc : List Str), k + n = many → NamesTo r0 acc k → ∃ nms, NamesTo r0 nms many ∧
    ∀ st x4 x5 x6 x7 x8 x9, ∃ y4 y5 y6 y7 y8 y9, mLoop (stName 4) (l_law_names_3 C) ((rangeD 0 many).drop k) ⟨[x0, x1, some (.lst (jDs row)), some (.cell st.length), x4, x5, x6, x7, x8, x9], st ++ [.lst (sDs acc)]⟩ = .ok (.nx ⟨[x0, x1, some (.lst (jDs row)), some (.cell st.length), y4, y5, y6, y7, y8, y9], st ++ [.lst (sDs nms)]⟩)
  | 0, k, acc, hk, ha => by
    refine ⟨acc, ?_, fun st x4 x5 x6 x7 x8 x9 => ⟨x4, x5, x6, x7, x8, x9, ?_⟩⟩
    · rw [show many = k by omega]; exact ha
    · rw [List.drop_eq_nil_of_le (by rw [rangeD_len]; omega)]
      rfl
  | n + 1, k, acc, hk, ha => by
    have hlt : k < many := by omega
    obtain ⟨own0, o0, ds0, e0, ho0⟩ := own_of hf hlt
    obtain ⟨own1, o1, ds1, e1, ho1⟩ := own_of (k := 0) hf (by omega)
    have hlen : (sizesN many).length = 3 + 6 * many := by simp only [sizesN, List.length_append, rep_len]; rfl
    have hl : 9 + 6 * k ≤ row.length := by rw [hf.1, hlen]; omega
    obtain ⟨nm, z5, z6, z7, z8, hN, t⟩ := names_turn (C := C) (nms := acc) hr e0 ho0 e1 ho1 hl h0 h2 (by omega) (by have := ha.len; omega)
    have hacc : NamesTo r0 (acc ++ [nm]) (k + 1) := ⟨by simp [ha.len], fun j x hj => by
      by_cases h : j < acc.length
      · rw [List.getElem?_append_left h] at hj; exact ha.is j x hj
      · rw [List.getElem?_append_right (by omega)] at hj
        have e : j - acc.length = 0 := by
          have := (List.getElem?_eq_some_iff.mp hj).1
          simp at this; omega
        rw [e] at hj
        have hl := ha.len
        rw [show j = k by omega]
        simp at hj
        rw [← hj]
        exact hN⟩
    obtain ⟨nms, hnms, e⟩ := names_loop hf hr h0 h2 hm n (k + 1) (acc ++ [nm]) (by omega) hacc
    refine ⟨nms, hnms, fun st x4 x5 x6 x7 x8 x9 => ?_⟩
    obtain ⟨y4, y5, y6, y7, y8, y9, e⟩ := e st (some (.int (k : Nat))) z5 z6 z7 z8 x9
    refine ⟨y4, y5, y6, y7, y8, y9, ?_⟩
    rw [range_drop hlt, loop_cons (st := stName 4) rfl (t st x0 x1 x5 x6 x7 x8 x9), e]
theorem fit_three {row sizes : List Int} {a b c : Int} (h : Fit row (a :: b :: c :: sizes)) : ∃ r0 r1 r2 rest, row = r0 :: r1 :: r2 :: rest ∧ 0 ≤ r0 ∧ r0 < a ∧ 0 ≤ r1 ∧ r1 < b ∧ 0 ≤ r2 ∧ r2 < c := by
  obtain ⟨hl, hf⟩ := h
  match row, hl, hf with
  | r0 :: r1 :: r2 :: rest, hl, hf =>
    have h0 := hf 0 r0 a rfl rfl
    have h1 := hf 1 r1 b rfl rfl
    have h2 := hf 2 r2 c rfl rfl
    exact ⟨r0, r1, r2, rest, rfl, h0.1, h0.2, h1.1, h1.2, h2.1, h2.2⟩
theorem okCL_s {n : Nat} : ∀ l : List Str, okCL n (sDs l) = true
  | [] => rfl
  | s :: l => by simp only [sDs, List.map_cons, okCL, okC]; exact Bool.and_eq_true_iff.mpr ⟨rfl, okCL_s l⟩
end Lm
set_option maxHeartbeats 400000
namespace Lm
open PySem L2 Mir
variable {C : Cl} {st : Sto}
theorem p_names (c : Int) (many : Nat) (hm : many ≤ 13) : ∃ nms, Names nms many ∧ ∀ st, f_law_names C [.int c, .int many] st = .ok (.lst (sDs nms), st) := by
  obtain ⟨row, hf, er⟩ := p_row (C := C) c (sizesN many) (fun s hs => by
    unfold sizesN at hs
    simp only [List.cons_append, List.nil_append, List.mem_cons, List.mem_flatten, List.mem_replicate] at hs
    rcases hs with rfl | rfl | rfl | ⟨l, ⟨_, rfl⟩, hs⟩
    · omega
    · omega
    · omega
    · simp at hs; omega) (by simp only [sizesN, List.length_append, rep_len]; simp; omega)
  obtain ⟨r0, r1, r2, rest, hr, h0, _, _, _, h2, _⟩ := fit_three (sizes := (List.replicate many [6, 13, 13, 13, 13, 13]).flatten) hf
  obtain ⟨nms, hn, e⟩ := names_loop (C := C) (x0 := some (.int c)) (x1 := some (.int many)) hf hr h0 h2 (by omega) many 0 [] (by omega) ⟨rfl, fun j x hj => by simp at hj⟩
  refine ⟨nms, hn.names hm, fun st => ?_⟩
  refine cut_rsv (d := .cell st.length) (j := [.lst (sDs nms)]) ?_ ?_
  · obtain ⟨y4, y5, y6, y7, y8, y9, e⟩ := e st none none none none none none
    rw [List.drop_zero] at e
    have e : mLoop (stName 4) (l_law_names_3 C) (rangeD 0 many) ⟨[some (.int c), some (.int many), some (.lst (jDs row)), some (.cell st.length), none, none, none, none, none, none], st ++ [.lst []]⟩ = _ := e
    have l2 : (-1000000 : Int) ≤ (many : Int) := by omega
    have l3 : (many : Int) ≤ 1000000 := by omega
    have l6 : 6 * many ≤ 1000000 := by omega
    have eS : jDs (sizesN many) = .int 13 :: .int 2 :: .int 6 :: (List.replicate many [D.int 6, D.int 13, D.int 13, D.int 13, D.int 13, D.int 13]).flatten := by
      simp [sizesN, jDs, List.map_flatten]
    rw [eS] at er
    have ll : ((List.replicate many [D.int 6, D.int 13, D.int 13, D.int 13, D.int 13, D.int 13]).flatten).length = 6 * many := by
      have := congrArg List.length eS
      simp only [jDs, List.length_map, List.length_cons, sizesN, List.length_append, rep_len, List.length_nil] at this
      omega
    have em := dMul_l (a := [.int 6, .int 13, .int 13, .int 13, .int 13, .int 13]) (k := many) (by simp only [List.length_cons, List.length_nil]; omega) (by omega)
    have ea := dAdd_l (a := [.int 13, .int 2, .int 6]) (b := (List.replicate many [D.int 6, D.int 13, D.int 13, D.int 13, D.int 13, D.int 13]).flatten) (by rw [ll]; simp only [List.length_cons, List.length_nil]; omega)
    rw [List.cons_append, List.cons_append, List.cons_append, List.nil_append] at ea
    have h1 : mSet 2 (mCall (f_law_row C) [] (mCons (mVar 0) (mCons (mOp2 dAdd (mLst (mCons (mC (.int 13)) (mCons (mC (.int 2)) (mCons (mC (.int 6)) mNil)))) (mOp2 dMul (mLst (mCons (mC (.int 6)) (mCons (mC (.int 13)) (mCons (mC (.int 13)) (mCons (mC (.int 13)) (mCons (mC (.int 13)) (mCons (mC (.int 13)) mNil))))))) (mVar 1))) mNil))) ⟨[some (.int c), some (.int many), none, none, none, none, none, none, none, none], st⟩ = .ok (.nx ⟨[some (.int c), some (.int many), some (.lst (jDs row)), none, none, none, none, none, none, none], st⟩) := by
      have a0 := op2_ok (f := dMul) (a := mLst (mCons (mC (.int 6)) (mCons (mC (.int 13)) (mCons (mC (.int 13)) (mCons (mC (.int 13)) (mCons (mC (.int 13)) (mCons (mC (.int 13)) mNil))))))) (b := mVar 1) (r := ⟨[some (.int c), some (.int many), none, none, none, none, none, none, none, none], st⟩) rfl rfl rfl rfl em
      have a1 := op2_ok (f := dAdd) (a := mLst (mCons (mC (.int 13)) (mCons (mC (.int 2)) (mCons (mC (.int 6)) mNil)))) rfl a0 rfl rfl ea
      have a2 := cons_ok (m := mVar 0) (r := ⟨[some (.int c), some (.int many), none, none, none, none, none, none, none, none], st⟩) rfl (cons_ok a1 (rfl : mNil _ = _))
      exact set_ok (i := 2) (call_ok a2 (er st))
    have h2 : mSet 3 (mCell (mLst mNil)) ⟨[some (.int c), some (.int many), some (.lst (jDs row)), none, none, none, none, none, none, none], st⟩ = .ok (.nx ⟨[some (.int c), some (.int many), some (.lst (jDs row)), some (.cell st.length), none, none, none, none, none, none], st ++ [.lst []]⟩) := by
      simp
    have rg := rng1 (oa := mVar 1) (r := ⟨[some (.int c), some (.int many), some (.lst (jDs row)), some (.cell st.length), none, none, none, none, none, none], st ++ [.lst []]⟩) (n := many) rfl (by omega)
    have h3 : mFor (mRng1 (mVar 1)) (stName 4) (l_law_names_3 C) ⟨[some (.int c), some (.int many), some (.lst (jDs row)), some (.cell st.length), none, none, none, none, none, none], st ++ [.lst []]⟩ = .ok (.nx ⟨[some (.int c), some (.int many), some (.lst (jDs row)), some (.cell st.length), y4, y5, y6, y7, y8, y9], st ++ [.lst (sDs nms)]⟩) := by
      simp only [mFor, rg, bnd_ok]
      exact e
    have main : b_law_names C ⟨[some (.int c), some (.int many), none, none, none, none, none, none, none, none], st⟩ = .ok (.rt (.cell st.length) ⟨[some (.int c), some (.int many), some (.lst (jDs row)), some (.cell st.length), y4, y5, y6, y7, y8, y9], st ++ [.lst (sDs nms)]⟩) := by
      rw [b_law_names, seq_nx h1, seq_nx h2, seq_nx h3]
      rfl
    simp [k_law_names, main]
  · rw [rsv_cell (d := .lst (sDs nms)) (Nat.lt_irrefl _) (get_0 _ _ _)]
    exact rsv_ok (okCL_s nms)
end Lm
set_option maxHeartbeats 400000
namespace Lm
open PySem L2 Mir
/-! ## _law_machine -/
end Lm
set_option maxHeartbeats 400000
namespace Lm
open PySem L2 Mir
variable {C : Cl} {st : Sto}
/-- behind k turns of the second loop -/
structure Acc2 (labels : List Int) (nms : List Str) (acc : List Stp) (k : Nat) : Prop where
  nd : acc.Nodup
  a : ∀ s ∈ acc, s.a ∈ labels
  w : ∀ s ∈ acc, s.w ∈ nms
  b : ∀ s ∈ acc, s.b ∈ labels
  src : ∀ x ∈ labels, ∃ s ∈ acc, s.a = x
  few : ∀ x, srcN acc x ≤ 1 + k
  len : acc.length ≤ labels.length + k
theorem Acc2.add {labels : List Int} {nms : List Str} {acc : List Stp} {k : Nat} {s : Stp} (h : Acc2 labels nms acc k) (hn : s ∉ acc) (ha : s.a ∈ labels) (hw : s.w ∈ nms) (hb : s.b ∈ labels) : Acc2 labels nms (acc ++ [s]) (k + 1) := by
  have key : ∀ (P : Stp → Prop), (∀ t ∈ acc, P t) → P s → ∀ t ∈ acc ++ [s], P t := fun P h1 h2 t ht => by
    rcases List.mem_append.mp ht with z | z
    · exact h1 t z
    · rw [List.mem_singleton.mp z]; exact h2
  refine ⟨?_, key _ h.a ha, key _ h.w hw, key _ h.b hb, fun x hx => ?_, fun x => ?_, ?_⟩
  · rw [List.nodup_append]
    exact ⟨h.nd, List.nodup_cons.mpr ⟨List.not_mem_nil, List.nodup_nil⟩, fun a ha b hb e => by
      rw [List.mem_singleton] at hb
      exact hn (by rw [← hb, ← e]; exact ha)⟩
  · obtain ⟨t, ht, e⟩ := h.src x hx
    exact ⟨t, List.mem_append_left _ ht, e⟩
  · unfold srcN
    rw [List.countP_append]
    have h1 := h.few x
    unfold srcN at h1
    have h2 : List.countP (fun t : Stp => decide (t.a = x)) [s] ≤ 1 := by
      have := List.countP_le_length (p := fun t : Stp => decide (t.a = x)) (l := [s])
      simpa using this
    omega
  · rw [List.length_append, List.length_singleton]
    have := h.len
    omega
theorem Acc2.up {labels : List Int} {nms : List Str} {acc : List Stp} {k : Nat} (h : Acc2 labels nms acc k) : Acc2 labels nms acc (k + 1) := ⟨h.nd, h.a, h.w, h.b, h.src, fun x => by have := h.few x; omega, by have := h.len; omega⟩
end Lm
set_option maxHeartbeats 400000
namespace Lm
open PySem L2 Mir
variable {C : Cl} {st : Sto}
theorem Fit.at {row sizes : List Int} (h : Fit row sizes) {k : Nat} {s : Int} (hs : sizes[k]? = some s) : ∃ x, row[k]? = some x ∧ 0 ≤ x ∧ x < s := by
  have hk := (List.getElem?_eq_some_iff.mp hs).1
  have e : row[k]? = some (row[k]'(by rw [h.1]; exact hk)) := List.getElem?_eq_getElem _
  exact ⟨_, e, h.2 k _ s e hs⟩
/-! the labels -/
end Lm
set_option maxHeartbeats 400000
namespace Lm
open PySem L2 Mir
variable {C : Cl} {st : Sto}
/-- what _law_machine makes -/
structure Made (labels : List Int) (steps : List Stp) (nms : List Str) (m e : Nat) : Prop where
  lnd : labels.Nodup
  lne : 1 ≤ labels.length
  lm : labels.length ≤ m
  lok : ∀ x ∈ labels, okSt x = true
  nd : steps.Nodup
  a : ∀ s ∈ steps, s.a ∈ labels
  w : ∀ s ∈ steps, s.w ∈ nms
  b : ∀ s ∈ steps, s.b ∈ labels
  src : ∀ x ∈ labels, ∃ s ∈ steps, s.a = x
  w0 : ∀ w, nms[0]? = some w → ∃ s ∈ steps, s.w = w
  few : ∀ x, srcN steps x ≤ e + 2
  len : steps.length ≤ m + e + 1
end Lm
set_option maxHeartbeats 400000
namespace Lm
open PySem L2 Mir
end Lm
set_option maxHeartbeats 400000
namespace Lm
open PySem L2 Mir
variable {C : Cl} {st : Sto}
/-! ## leaving_table -/
def addI (l : List Int) (s : Int) : List Int := if s ∈ l then l else l ++ [s]
/-- the sources, by first appearance -/
def srcs (l : List Stp) : List Int := l.foldl (fun acc x => addI acc x.a) []
def numsF : Nat → List Stp → Int → List Int
  | _, [], _ => []
  | o, x :: l, s => (if x.a = s then [(o : Int)] else []) ++ numsF (o + 1) l s
abbrev nums (l : List Stp) (s : Int) : List Int := numsF 0 l s
abbrev iDs (l : List Int) : List D := l.map D.int
/-- the table -/
def leaving (l : List Stp) : List (Key × D) := (srcs l).map fun s => (.inl s, .lst (iDs (nums l s)))
end Lm
set_option maxHeartbeats 400000
namespace Lm
open PySem L2 Mir
variable {C : Cl} {st : Sto}
/-! ## what is reached -/
inductive Reach (l : List Stp) (start : Int) : Int → Prop
  | base : Reach l start start
  | step {x : Int} {s : Stp} : Reach l start x → s ∈ l → s.a = x → Reach l start s.b
/-- the ascending list of it -/
structure States (l : List Stp) (start : Int) (xs : List Int) : Prop where
  asc : xs.Pairwise fun a b => a < b
  mem : ∀ x, x ∈ xs ↔ Reach l start x
theorem asc_nodup {xs : List Int} (h : xs.Pairwise fun a b => a < b) : xs.Nodup := h.imp fun h => Int.ne_of_lt h
theorem States.uniq {l : List Stp} {start : Int} {xs ys : List Int} (h : States l start xs) (k : States l start ys) : xs = ys :=
  List.Perm.eq_of_pairwise (fun a b _ _ h1 h2 => absurd (Int.lt_trans h1 h2) (Int.lt_irrefl _)) h.asc k.asc ((List.perm_ext_iff_of_nodup (asc_nodup h.asc) (asc_nodup k.asc)).mpr fun x => (h.mem x).trans (k.mem x).symm)
/-! the search -/
structure Visited (p q : List Int × List Int) (ts : List Int) : Prop where
  nd : p.1.Nodup → q.1.Nodup
  m1 : ∀ x ∈ p.1, x ∈ q.1
  w1 : ∀ x ∈ p.2, x ∈ q.2
  all : ∀ t ∈ ts, t ∈ q.1
  old : ∀ x ∈ q.1, x ∈ p.1 ∨ x ∈ ts
  w2 : ∀ x ∈ q.2, x ∈ p.2 ∨ x ∈ q.1
  new : ∀ x ∈ q.1, x ∉ p.1 → x ∈ q.2
  len : q.1.length + p.2.length = p.1.length + q.2.length
theorem Visited.trans {p q r : List Int × List Int} {ts us : List Int} (h : Visited p q ts) (k : Visited q r us) : Visited p r (ts ++ us) where
  nd := fun z => k.nd (h.nd z)
  m1 := fun x hx => k.m1 x (h.m1 x hx)
  w1 := fun x hx => k.w1 x (h.w1 x hx)
  all := fun t ht => (List.mem_append.mp ht).elim (fun z => k.m1 t (h.all t z)) (k.all t)
  old := fun x hx => (k.old x hx).elim (fun z => (h.old x z).elim .inl fun y => .inr (List.mem_append_left _ y)) fun z => .inr (List.mem_append_right _ z)
  w2 := fun x hx => (k.w2 x hx).elim (fun z => (h.w2 x z).elim .inl fun y => .inr (k.m1 x y)) .inr
  new := fun x hx hn => by
    by_cases z : x ∈ q.1
    · exact k.w1 x (h.new x z hn)
    · exact k.new x hx z
  len := by have := h.len; have := k.len; omega
def tgs (l : List Stp) (s : Int) : List Int := (l.filter fun x => decide (x.a = s)).map (·.b)
theorem mem_tgs {l : List Stp} {s t : Int} : t ∈ tgs l s ↔ ∃ x ∈ l, x.a = s ∧ x.b = t := by
  unfold tgs
  simp only [List.mem_map, List.mem_filter, decide_eq_true_eq]
  exact ⟨fun ⟨x, ⟨h1, h2⟩, h3⟩ => ⟨x, h1, h2, h3⟩, fun ⟨x, h1, h2, h3⟩ => ⟨x, ⟨h1, h2⟩, h3⟩⟩
/-- where the search stands -/
structure Dfs (l : List Stp) (start : Int) (p : List Int × List Int) : Prop where
  nd : p.1.Nodup
  sub : ∀ x ∈ p.2, x ∈ p.1
  rch : ∀ x ∈ p.1, Reach l start x
  clo : ∀ x ∈ p.1, x ∉ p.2 → ∀ t ∈ tgs l x, t ∈ p.1
  st : start ∈ p.1
theorem Dfs.done {l : List Stp} {start : Int} {met : List Int} (h : Dfs l start (met, [])) : ∀ x, x ∈ met ↔ Reach l start x := fun x => by
  refine ⟨h.rch x, fun r => ?_⟩
  induction r with
  | base => exact h.st
  | step r hs e ih => exact h.clo _ ih (by simp) _ (mem_tgs.mpr ⟨_, hs, e, rfl⟩)
/-! the mirror -/
end Lm
set_option maxHeartbeats 400000
namespace Lm
open PySem L2 Mir
variable {C : Cl} {st : Sto}
/-! ## the words -/
def wKeys (l : List Stp) : List Key := l.map fun s => .inr s.w
theorem allS_inr : ∀ {ks : List Key}, (∀ k ∈ ks, ∃ x, k = .inr x) → KS.hom ks = true := fun {ks} h => by
  unfold KS.hom
  rw [Bool.or_eq_true]
  right
  unfold KS.allS
  rw [List.all_eq_true]
  intro k hk
  obtain ⟨x, rfl⟩ := h k hk
  rfl
def sOf : Key → Str
  | .inr x => x
  | .inl _ => Str.empty
def wordsOf (l : List Stp) : List Str := (KS.sortK (KS.dedupK (wKeys l))).map sOf
theorem mem_wk {l : List Stp} {k : Key} (h : k ∈ KS.sortK (KS.dedupK (wKeys l))) : ∃ s ∈ l, k = .inr s.w := by
  have := KS.mem_dedup.mp ((KS.sortK_perm _).mem_iff.mp h)
  obtain ⟨s, hs, rfl⟩ := List.mem_map.mp this
  exact ⟨s, hs, rfl⟩
theorem mem_words {l : List Stp} {w : Str} : w ∈ wordsOf l ↔ ∃ s ∈ l, s.w = w := by
  unfold wordsOf
  constructor
  · intro h
    obtain ⟨k, hk, rfl⟩ := List.mem_map.mp h
    obtain ⟨s, hs, rfl⟩ := mem_wk hk
    exact ⟨s, hs, rfl⟩
  · rintro ⟨s, hs, rfl⟩
    exact List.mem_map.mpr ⟨.inr s.w, (KS.sortK_perm _).mem_iff.mpr (KS.mem_dedup.mpr (List.mem_map.mpr ⟨s, hs, rfl⟩)), rfl⟩
theorem nodup_words (l : List Stp) : (wordsOf l).Nodup := by
  unfold wordsOf
  have nd : (KS.sortK (KS.dedupK (wKeys l))).Nodup := (KS.sortK_perm _).nodup_iff.mpr KS.nodup_dedup
  have gen : ∀ ks : List Key, ks.Nodup → (∀ k ∈ ks, ∃ x, k = .inr x) → (ks.map sOf).Nodup := by
    intro ks
    induction ks with
    | nil => intro _ _; simp
    | cons k ks ih =>
      intro hn hs
      rw [List.nodup_cons] at hn
      rw [List.map_cons, List.nodup_cons]
      refine ⟨fun z => ?_, ih hn.2 fun j hj => hs j (List.mem_cons_of_mem _ hj)⟩
      obtain ⟨j, hj, e⟩ := List.mem_map.mp z
      obtain ⟨x, rfl⟩ := hs k List.mem_cons_self
      obtain ⟨y, rfl⟩ := hs j (List.mem_cons_of_mem _ hj)
      simp only [sOf] at e
      exact hn.1 (e ▸ hj)
  exact gen _ nd fun k hk => by obtain ⟨s, _, rfl⟩ := mem_wk hk; exact ⟨_, rfl⟩
theorem foldA_keys : ∀ (ks acc : List Key), acc.length + ks.length ≤ 4000 → foldA appK (ks.map fun k => [ofKey k]) acc = some (ks.reverse ++ acc)
  | [], acc, _ => by simp [foldA]
  | k :: ks, acc, h => by
    rw [List.length_cons] at h
    rw [List.map_cons]
    unfold foldA
    have h1 : acc.length < 4000 := by omega
    simp only [appK, h1, if_true, keyD_of, Option.map_some, Option.bind_some]
    rw [foldA_keys ks (k :: acc) (by rw [List.length_cons]; omega)]
    simp
end Lm
set_option maxHeartbeats 1000000
namespace Lm
open PySem L2 Mir
variable {C : Cl} {st : Sto}
/-! ## the fields' names are unlike -/
@[simp] theorem n12 : (Str.ofString "first_state" = Str.ofString "step_rows") = False := eq_false (by decide +kernel)
@[simp] theorem n13 : (Str.ofString "first_state" = Str.ofString "word_list") = False := eq_false (by decide +kernel)
@[simp] theorem n14 : (Str.ofString "first_state" = Str.ofString "fault_table") = False := eq_false (by decide +kernel)
@[simp] theorem n15 : (Str.ofString "first_state" = Str.ofString "leaving") = False := eq_false (by decide +kernel)
@[simp] theorem n16 : (Str.ofString "first_state" = Str.ofString "met_states") = False := eq_false (by decide +kernel)
@[simp] theorem n23 : (Str.ofString "step_rows" = Str.ofString "word_list") = False := eq_false (by decide +kernel)
@[simp] theorem n24 : (Str.ofString "step_rows" = Str.ofString "fault_table") = False := eq_false (by decide +kernel)
@[simp] theorem n25 : (Str.ofString "step_rows" = Str.ofString "leaving") = False := eq_false (by decide +kernel)
@[simp] theorem n26 : (Str.ofString "step_rows" = Str.ofString "met_states") = False := eq_false (by decide +kernel)
@[simp] theorem n34 : (Str.ofString "word_list" = Str.ofString "fault_table") = False := eq_false (by decide +kernel)
@[simp] theorem n35 : (Str.ofString "word_list" = Str.ofString "leaving") = False := eq_false (by decide +kernel)
@[simp] theorem n36 : (Str.ofString "word_list" = Str.ofString "met_states") = False := eq_false (by decide +kernel)
@[simp] theorem n45 : (Str.ofString "fault_table" = Str.ofString "leaving") = False := eq_false (by decide +kernel)
@[simp] theorem n46 : (Str.ofString "fault_table" = Str.ofString "met_states") = False := eq_false (by decide +kernel)
@[simp] theorem n56 : (Str.ofString "leaving" = Str.ofString "met_states") = False := eq_false (by decide +kernel)
/-- the machine as data -/
def fields (start : Int) (l : List Stp) (fs : List (Str × Str)) (xs : List Int) : List (Str × D) :=
  [(Str.ofString "first_state", .int start), (Str.ofString "step_rows", .lst (l.map Stp.d)), (Str.ofString "word_list", .lst (sDs (wordsOf l))), (Str.ofString "fault_table", .dic (fDic (keepF fs (wordsOf l)))), (Str.ofString "leaving", .dic (leaving l)), (Str.ofString "met_states", .lst (iDs xs))]
/-- how the rows come in -/
def RowsIn (st : Sto) (l : List Stp) (d : D) : Prop := d = .tup (l.map Stp.d) ∨ d = .lst (l.map Stp.d) ∨ ∃ c, d = .cell c ∧ Has st c (.lst (l.map Stp.d))
/-- how the faults come in -/
def FltsIn (st : Sto) (fs : List (Str × Str)) (d : D) : Prop := d = .dic (fDic fs) ∨ (d = .non ∧ fs = []) ∨ ∃ c, d = .cell c ∧ Has st c (.dic (fDic fs))
theorem RowsIn.run {l : List Stp} {d : D} (h : RowsIn st l d) (hr : Rows l) (j : Sto) : f_checked_steps C [d] (st ++ j) = .ok (.lst (l.map Stp.d), st ++ j) := by
  rcases h with rfl | rfl | ⟨c, rfl, hc⟩
  · exact p_checked_t hr
  · exact p_checked_l hr
  · exact p_checked_c hr (hc.more j)
theorem FltsIn.run {l : List Stp} {fs : List (Str × Str)} {d : D} (h : FltsIn st fs d) (hf : Flts fs (wordsOf l)) (j : Sto) : f_checked_faults C [d, .lst (sDs (wordsOf l))] (st ++ j) = .ok (.dic (fDic (keepF fs (wordsOf l))), st ++ j) := by
  rcases h with rfl | ⟨rfl, rfl⟩ | ⟨c, rfl, hc⟩
  · exact p_faults_d hf
  · rw [p_faults_n]
    have : keepF [] (wordsOf l) = [] := by unfold keepF; simp
    rw [this]; rfl
  · exact p_faults_c hf (hc.more j)
end Lm
set_option maxHeartbeats 1000000
namespace Lm
open PySem L2 Mir
variable {C : Cl} {st : Sto}
/-! ### the faults' names, the faults -/
def sortS (xs : List Str) : List Str := (KS.sortK (KS.dedupK (xs.map fun x => (.inr x : Key)))).map sOf
theorem sortS_of {ks : List Key} {xs : List Str} (h : ∀ k, k ∈ ks ↔ k ∈ xs.map fun x => (.inr x : Key)) : (KS.sortK (KS.dedupK ks)).map ofKey = sDs (sortS xs) := by
  have e : KS.sortK (KS.dedupK ks) = KS.sortK (KS.dedupK (xs.map fun x => (.inr x : Key))) := KS.sortK_congr (KS.perm_of_mem KS.nodup_dedup KS.nodup_dedup fun k => by rw [KS.mem_dedup, KS.mem_dedup]; exact h k)
  rw [e]
  unfold sortS
  simp only [sDs, List.map_map]
  refine List.map_congr_left fun k hk => ?_
  have := KS.mem_dedup.mp ((KS.sortK_perm _).mem_iff.mp hk)
  obtain ⟨x, _, rfl⟩ := List.mem_map.mp this
  rfl
theorem sortS_congr {xs ys : List Str} (h : ∀ x, x ∈ xs ↔ x ∈ ys) : sortS xs = sortS ys := by
  unfold sortS
  rw [KS.sortK_congr (KS.perm_of_mem (l := KS.dedupK (xs.map fun x => (.inr x : Key))) (l' := KS.dedupK (ys.map fun x => (.inr x : Key))) KS.nodup_dedup KS.nodup_dedup fun k => by
    rw [KS.mem_dedup, KS.mem_dedup]
    simp only [List.mem_map]
    exact ⟨fun ⟨x, h1, h2⟩ => ⟨x, (h x).mp h1, h2⟩, fun ⟨x, h1, h2⟩ => ⟨x, (h x).mpr h1, h2⟩⟩)]
section
variable {start : Int} {l : List Stp} {fs : List (Str × Str)} {xs : List Int}
theorem keepF_keys (fs : List (Str × Str)) (ws : List Str) : (keepF fs ws).map (·.1) = ws.filter fun w => decide (w ∈ fs.map (·.1)) := by
  unfold keepF
  rw [List.map_map]
  exact List.map_id _
end
end Lm
set_option maxHeartbeats 400000
namespace Lm
open PySem L2 Mir
variable {C : Cl} {st : Sto}
/-! ## _law_exact of a thing and itself -/
def flatOk : Nat → D → Bool
  | 0, _ => false
  | _ + 1, .non => true
  | _ + 1, .bl _ => true
  | _ + 1, .int _ => true
  | _ + 1, .str _ => true
  | n + 1, .lst xs => decide (xs.length ≤ 100000) && xs.all (flatOk n)
  | n + 1, .tup xs => decide (xs.length ≤ 100000) && xs.all (flatOk n)
  | _ + 1, _ => false
theorem exact_loop {f : Fn} {d : D} {xs : List D} (hf : ∀ x ∈ xs, ∀ st, f [x, x] st = .ok (.bl true, st)) (hd : d = .lst xs ∨ d = .tup xs) : ∃ x2, mLoop (stName 2) (l_law_exact_1 C f) (rangeD 0 xs.length) ⟨[some d, some d, none], st⟩ = .ok (.nx ⟨[some d, some d, x2], st⟩) := by
  obtain ⟨r', h1, x2, rfl⟩ := loop_inv (st := stName 2) (b := l_law_exact_1 C f) (fun _ r => ∃ x2, r = ⟨[some d, some d, x2], st⟩) (xs := rangeD 0 xs.length) (r := ⟨[some d, some d, none], st⟩) ⟨none, rfl⟩ (fun i x r hx hr => by
    obtain ⟨x2, rfl⟩ := hr
    obtain ⟨rfl, hi⟩ := rangeD_mem hx
    have e : xs[i]? = some xs[i] := List.getElem?_eq_getElem hi
    have a := atI_nat e
    have hx := hf xs[i] (List.getElem_mem hi)
    refine ⟨⟨[some d, some d, some (.int (0 + (i : Int)))], st⟩, ⟨[some d, some d, some (.int (0 + (i : Int)))], st⟩, rfl, .inl ?_, _, rfl⟩
    rw [Int.zero_add]
    rcases hd with rfl | rfl <;> simp [l_law_exact_1, a, hx])
  exact ⟨x2, h1⟩
theorem p_exact : ∀ {n : Nat} {d : D} {st : Sto}, flatOk n d = true → f_law_exact C n [d, d] st = .ok (.bl true, st)
  | 0, _, _, h => by cases h
  | n + 1, d, st, h => by
    unfold f_law_exact
    refine cut_pure0 ?_ rfl
    cases d with
    | non => simp [b_law_exact]
    | bl b => simp [b_law_exact, eqOk, eqD, scalD]
    | int i =>
      have hi : f_law_is_integer C [.int i] st = .ok (.bl true, st) := cut_pure0 (by simp [k_law_is_integer, b_law_is_integer]) rfl
      simp [b_law_exact, hi, eqOk, eqD, scalD]
    | str x => simp [b_law_exact, eqOk, eqD, scalD]
    | lst xs =>
      simp only [flatOk, Bool.and_eq_true, decide_eq_true_eq, List.all_eq_true] at h
      obtain ⟨x2, e⟩ := exact_loop (C := C) (st := st) (f := f_law_exact C n) (d := .lst xs) (xs := xs) (fun x hx st => p_exact (h.2 x hx)) (.inl rfl)
      have l1 : xs.length ≤ 1000000 := by omega
      have l2 : (-1000000 : Int) ≤ (xs.length : Int) := by omega
      have l3 : (xs.length : Int) ≤ 1000000 := by omega
      simp [b_law_exact, l1, l2, l3, eqOk, eqD, scalD]
      rw [e]
      simp
    | tup xs =>
      simp only [flatOk, Bool.and_eq_true, decide_eq_true_eq, List.all_eq_true] at h
      obtain ⟨x2, e⟩ := exact_loop (C := C) (st := st) (f := f_law_exact C n) (d := .tup xs) (xs := xs) (fun x hx st => p_exact (h.2 x hx)) (.inr rfl)
      have l1 : xs.length ≤ 1000000 := by omega
      have l2 : (-1000000 : Int) ≤ (xs.length : Int) := by omega
      have l3 : (xs.length : Int) ≤ 1000000 := by omega
      simp [b_law_exact, l1, l2, l3, eqOk, eqD, scalD]
      rw [e]
      simp
    | _ => cases h
/-! ## _law_reached -/
/-! what grows -/
/-! ## _law_told -/
end Lm
set_option maxHeartbeats 400000
namespace Lm
open PySem L2 Mir
variable {C : Cl} {st : Sto}
/-! ## _law_faults -/
/-- what the faults of a law are -/
structure LFlts (fs : List (Str × Str)) (l : List Stp) : Prop where
  nd : (fs.map (·.1)).Nodup
  sub : ∀ p ∈ fs, p.1 ∈ l.map (·.w)
  okw : ∀ p ∈ fs, okNm p.1 = true
  okn : ∀ p ∈ fs, okNm p.2 = true
  len : fs.length ≤ 2
  ne : 1 ≤ fs.length
end Lm
set_option maxHeartbeats 400000
namespace Lm
open PySem L2 Mir
variable {C : Cl} {st : Sto}
/-! ## faults in another order -/
theorem find_nd {fs : List (Str × Str)} (nd : (fs.map (·.1)).Nodup) {p : Str × Str} (h : p ∈ fs) : fs.find? (fun q => decide (q.1 = p.1)) = some p := by
  induction fs with
  | nil => cases h
  | cons q fs ih =>
    rw [List.map_cons, List.nodup_cons] at nd
    rw [List.find?_cons]
    rcases List.mem_cons.mp h with rfl | h
    · simp
    · have : ¬ q.1 = p.1 := fun z => nd.1 (z ▸ List.mem_map_of_mem h)
      simp only [decide_eq_false this]
      exact ih nd.2 h
theorem look_mem {fs : List (Str × Str)} (nd : (fs.map (·.1)).Nodup) {p : Str × Str} (h : p ∈ fs) : look fs p.1 = p.2 := by
  unfold look
  rw [find_nd nd h]
  rfl
theorem keepF_nd {fs : List (Str × Str)} {ws : List Str} (wnd : ws.Nodup) : ((keepF fs ws).map (·.1)).Nodup := by
  rw [keepF_keys]
  exact wnd.filter _
theorem dicSame_perm {fs gs : List (Str × Str)} (nd : (fs.map (·.1)).Nodup) (h : gs.Perm fs) : dicSame (fDic gs) (fDic fs) = true := by
  simp only [dicSame, Bool.and_eq_true, decide_eq_true_eq, List.all_eq_true]
  refine ⟨by simp [h.length_eq], fun q hq => ?_⟩
  obtain ⟨p, hp, rfl⟩ := List.mem_map.mp hq
  have hp' := h.mem_iff.mp hp
  have := fDic_look (fs := fs) (w := p.1) (List.mem_map_of_mem hp')
  rw [look_mem nd hp'] at this
  simp only [this, sameS, beq_self_eq_true]
theorem LFlts.perm {fs gs : List (Str × Str)} {l : List Stp} (h : LFlts fs l) (p : gs.Perm fs) : LFlts gs l :=
  ⟨(p.map _).nodup_iff.mpr h.nd, fun q hq => h.sub q (p.mem_iff.mp hq), fun q hq => h.okw q (p.mem_iff.mp hq), fun q hq => h.okn q (p.mem_iff.mp hq), by rw [p.length_eq]; exact h.len, by rw [p.length_eq]; exact h.ne⟩
theorem words_few {l : List Stp} {nms : List Str} (h : ∀ s ∈ l, s.w ∈ nms) : (wordsOf l).length ≤ nms.length :=
  nodup_sub_len (nodup_words l) fun w hw => by
    obtain ⟨s, hs, rfl⟩ := mem_words.mp hw
    exact h s hs
theorem sortS_sub {xs : List Str} {x : Str} (h : x ∈ sortS xs) : x ∈ xs := by
  obtain ⟨k, hk, rfl⟩ := List.mem_map.mp h
  have := KS.mem_dedup.mp ((KS.sortK_perm _).mem_iff.mp hk)
  obtain ⟨y, hy, rfl⟩ := List.mem_map.mp this
  exact hy
theorem sortS_mem {xs : List Str} {x : Str} : x ∈ sortS xs ↔ x ∈ xs := ⟨sortS_sub, fun h => List.mem_map.mpr ⟨.inr x, (KS.sortK_perm _).mem_iff.mpr (KS.mem_dedup.mpr (List.mem_map.mpr ⟨x, h, rfl⟩)), rfl⟩⟩
theorem sortS_len (xs : List Str) : (sortS xs).length ≤ xs.length := by
  unfold sortS
  rw [List.length_map, (KS.sortK_perm _).length_eq]
  have := nodup_sub_len (l := KS.dedupK (xs.map fun x => (.inr x : Key))) KS.nodup_dedup (fun k hk => KS.mem_dedup.mp hk)
  rwa [List.length_map] at this
end Lm
set_option maxHeartbeats 400000
namespace Mir
open PySem L2
/-! comprehensions over a list of anything -/
theorem comp_of {α : Type} {s0 : List (Option D)} {st : D → RE → Option RE} {mt : RE → Out (Bool × RE)} {me : RE → Out (D × RE)} {so : Sto} (i f : α → D) (p : α → Bool) : ∀ (as : List α) (acc : List D),
    (∀ a ∈ as, ∃ r1 r2, st (i a) ⟨s0, so⟩ = some r1 ∧ mt r1 = .ok (p a, r2) ∧ r2.st = so ∧ (p a = true → ∃ r3, me r2 = .ok (f a, r3) ∧ r3.st = so)) → acc.length + as.length ≤ 1000000 →
    mCompL s0 st mt me (as.map i) so acc = .ok (acc ++ (as.filter p).map f, so)
  | [], acc, _, _ => by simp [mCompL]
  | x :: xs, acc, h, hl => by
    obtain ⟨r1, r2, h1, h2, h3, h4⟩ := h x List.mem_cons_self
    rw [List.length_cons] at hl
    rw [List.map_cons]
    unfold mCompL
    rw [h1]
    simp only [h2, bnd_ok]
    by_cases hp : p x = true
    · obtain ⟨r3, h5, h6⟩ := h4 hp
      rw [if_pos hp, h5]
      simp only [bnd_ok]
      rw [if_pos (by omega), h6, comp_of i f p xs (acc ++ [f x]) (fun y hy => h y (List.mem_cons_of_mem _ hy)) (by rw [List.length_append, List.length_singleton]; omega)]
      rw [List.filter_cons_of_pos hp, List.map_cons, List.append_assoc]
      rfl
    · rw [if_neg hp, h3, comp_of i f p xs acc (fun y hy => h y (List.mem_cons_of_mem _ hy)) (by omega)]
      rw [List.filter_cons_of_neg hp]
theorem comp_each {α : Type} {s0 : List (Option D)} {st : D → RE → Option RE} {mt : RE → Out (Bool × RE)} {me : RE → Out (D × RE)} {so : Sto} (i f : α → D) (as : List α)
    (h : ∀ a ∈ as, ∃ r1 r2, st (i a) ⟨s0, so⟩ = some r1 ∧ mt r1 = .ok (true, r2) ∧ r2.st = so ∧ ∃ r3, me r2 = .ok (f a, r3) ∧ r3.st = so) (hl : as.length ≤ 1000000) :
    mCompL s0 st mt me (as.map i) so [] = .ok (as.map f, so) := by
  have := comp_of (s0 := s0) (st := st) (mt := mt) (me := me) (so := so) i f (fun _ => true) as [] (fun a ha => by
    obtain ⟨r1, r2, h1, h2, h3, h4⟩ := h a ha
    exact ⟨r1, r2, h1, h2, h3, fun _ => h4⟩) (by rw [List.length_nil]; omega)
  rw [this, List.filter_eq_self.mpr (fun _ _ => rfl), List.nil_append]
theorem compG_of {α β : Type} {app : List D → β → Option β} {s0 : List (Option D)} {st : D → RE → Option RE} {mt : RE → Out (Bool × RE)} {ma : RE → Out (List D × RE)} {so : Sto} (i : α → D) (f : α → List D) (p : α → Bool) : ∀ (xs : List α) (a a' : β),
    (∀ x ∈ xs, ∃ r1 r2, st (i x) ⟨s0, so⟩ = some r1 ∧ mt r1 = .ok (p x, r2) ∧ r2.st = so ∧ (p x = true → ∃ r3, ma r2 = .ok (f x, r3) ∧ r3.st = so)) → foldA app ((xs.filter p).map f) a = some a' →
    mCompG s0 st mt ma app (xs.map i) so a = .ok (a', so)
  | [], a, a', _, e => by simp only [List.filter_nil, List.map_nil, foldA, Option.some.injEq] at e; subst e; rfl
  | x :: xs, a, a', h, e => by
    obtain ⟨r1, r2, h1, h2, h3, h4⟩ := h x List.mem_cons_self
    rw [List.map_cons]
    unfold mCompG
    rw [h1]
    simp only [h2, bnd_ok]
    by_cases hp : p x = true
    · obtain ⟨r3, h5, h6⟩ := h4 hp
      rw [List.filter_cons_of_pos hp, List.map_cons] at e
      simp only [foldA] at e
      obtain ⟨a1, e1, e2⟩ := Option.bind_eq_some_iff.mp e
      rw [if_pos hp, h5]
      simp only [bnd_ok, e1]
      rw [h6]
      exact compG_of i f p xs a1 a' (fun y hy => h y (List.mem_cons_of_mem _ hy)) e2
    · rw [List.filter_cons_of_neg hp] at e
      rw [if_neg hp, h3]
      exact compG_of i f p xs a a' (fun y hy => h y (List.mem_cons_of_mem _ hy)) e
end Mir
set_option maxHeartbeats 400000
namespace Lm
open PySem L2 Mir
variable {C : Cl} {st : Sto}
/-! ## walks -/
inductive Walk (l : List Stp) : Int → List (Nat × Stp) → Int → Prop
  | nil {x : Int} : Walk l x [] x
  | cons {x y : Int} {n : Nat} {s : Stp} {ps : List (Nat × Stp)} : l[n]? = some s → s.a = x → Walk l s.b ps y → Walk l x ((n, s) :: ps) y
theorem Walk.at {l : List Stp} {x y : Int} {ps : List (Nat × Stp)} (h : Walk l x ps y) : ∀ p ∈ ps, l[p.1]? = some p.2 := by
  induction h with
  | nil => intro p hp; cases hp
  | cons h1 _ _ ih => intro p hp; rcases List.mem_cons.mp hp with rfl | hp; exact h1; exact ih p hp
theorem Walk.snoc {l : List Stp} {x y : Int} {ps : List (Nat × Stp)} {n : Nat} {s : Stp} (h : Walk l x ps y) (h1 : l[n]? = some s) (h2 : s.a = y) : Walk l x (ps ++ [(n, s)]) s.b := by
  induction h with
  | nil => exact .cons h1 h2 .nil
  | cons a b _ ih => exact .cons a b (ih h2)
section
variable {start : Int} {l : List Stp} {fs : List (Str × Str)} {xs : List Int}
abbrev mch (C : Cl) (start : Int) (l : List Stp) (fs : List (Str × Str)) (xs : List Int) : D := .ins C.Machine (fields start l fs xs)
/-! faults of a run -/
def wDs (ps : List (Nat × Stp)) : List Str := ps.map fun p => p.2.w
def inT (ts : List (Str × Str)) (w : Str) : Bool := decide (w ∈ ts.map (·.1))
/-- what a table tells of words -/
def toldW (ts : List (Str × Str)) (ws : List Str) : List Str := (ws.filter (inT ts)).map (look ts)
end
end Lm
set_option maxHeartbeats 400000
namespace Lm
open PySem L2 Mir
variable {C : Cl} {st : Sto}
/-! ## watches -/
abbrev wch (C : Cl) (tb : List (Str × Str)) : D := .ins C.Watch [(Str.ofString "table", .dic (fDic tb))]
theorem look_tab {d : D} : List.lookup (Str.ofString "table") [(Str.ofString "table", d)] = some d := by simp [List.lookup]
def sgt (tb : List (Str × Str)) (w : Str) : D := if inT tb w = true then .str (look tb w) else .non
theorem val_sgt {tb : List (Str × Str)} {w : Str} : (valD (fDic tb) (.inr w)).getD .non = sgt tb w := by
  unfold sgt inT
  by_cases h : w ∈ tb.map (·.1)
  · rw [fDic_look h, decide_eq_true h]; rfl
  · have := fDic_has (fs := tb) (w := w)
    rw [decide_eq_false h] at this ⊢
    rw [Option.isSome_eq_false_iff, Option.isNone_iff_eq_none] at this
    rw [this]; rfl
structure Table (tb : List (Str × Str)) : Prop where
  nd : (tb.map (·.1)).Nodup
  okw : ∀ p ∈ tb, okNm p.1 = true
  oks : ∀ p ∈ tb, okNm p.2 = true
  len : tb.length ≤ 100
theorem st_pair3 {x0 x1 x2 : Option D} {so : Sto} {a b : D} : stUnp 2 (stCons (stName 1) (stCons (stName 2) stNil)) (.tup [a, b]) ⟨[x0, x1, x2], so⟩ = some ⟨[x0, some a, some b], so⟩ := rfl
theorem tab_loop {x0 : Option D} : ∀ (tb : List (Str × Str)) (x1 x2 : Option D), (∀ p ∈ tb, okNm p.1 = true) → (∀ p ∈ tb, okNm p.2 = true) → ∃ y1 y2, mLoop (stUnp 2 (stCons (stName 1) (stCons (stName 2) stNil))) (l_is_sight_table_1 C) ((fDic tb).map kvPair) ⟨[x0, x1, x2], st⟩ = .ok (.nx ⟨[x0, y1, y2], st⟩)
  | [], x1, x2, _, _ => ⟨x1, x2, rfl⟩
  | p :: tb, x1, x2, h1, h2 => by
    obtain ⟨y1, y2, e⟩ := tab_loop (x0 := x0) tb (some (.str p.1)) (some (.str p.2)) (fun q hq => h1 q (List.mem_cons_of_mem _ hq)) (fun q hq => h2 q (List.mem_cons_of_mem _ hq))
    refine ⟨y1, y2, ?_⟩
    have n1 : isNm (.str p.1) = true := h1 p List.mem_cons_self
    have n2 : isNm (.str p.2) = true := h2 p List.mem_cons_self
    have a1 := p_name (C := C) (st := st) (plain_nm (h1 p List.mem_cons_self))
    have a2 := p_name (C := C) (st := st) (plain_nm (h2 p List.mem_cons_self))
    rw [n1] at a1
    rw [n2] at a2
    have t : l_is_sight_table_1 C ⟨[x0, some (.str p.1), some (.str p.2)], st⟩ = .ok (.nx ⟨[x0, some (.str p.1), some (.str p.2)], st⟩) := by
      simp [l_is_sight_table_1, a1, a2]
    rw [show (fDic (p :: tb)).map kvPair = .tup [.str p.1, .str p.2] :: (fDic tb).map kvPair from rfl, loop_cons (st := stUnp 2 (stCons (stName 1) (stCons (stName 2) stNil))) st_pair3 t, e]
theorem p_sight_table {tb : List (Str × Str)} (h : Table tb) : f_is_sight_table C [.dic (fDic tb)] st = .ok (.bl true, st) := by
  refine cut_pure0 ?_ rfl
  obtain ⟨y1, y2, e⟩ := tab_loop (C := C) (st := st) (x0 := some (.dic (fDic tb))) tb none none h.okw h.oks
  simp [-List.map_map, k_is_sight_table, b_is_sight_table]
  rw [e]
  simp
/-! ## sights of a path -/
end Lm
set_option maxHeartbeats 400000
namespace Lm
open PySem L2 Mir
variable {C : Cl} {st : Sto}
section
variable {start : Int} {l : List Stp} {fs tb : List (Str × Str)} {xs : List Int}
/-! ## == -/
theorem dicSame_refl {gs : List (Str × Str)} (nd : (gs.map (·.1)).Nodup) : dicSame (fDic gs) (fDic gs) = true := dicSame_perm nd (List.Perm.refl _)
end
end Lm
set_option maxHeartbeats 400000
namespace Lm
open PySem L2 Mir
variable {C : Cl} {st : Sto}
/-! ## _law_sights -/
structure TabTo (nms : List Str) (acc : List (Str × Str)) (k : Nat) : Prop where
  nd : (acc.map (·.1)).Nodup
  sub : ∀ p ∈ acc, p.1 ∈ nms.take k
  oks : ∀ p ∈ acc, okNm p.2 = true
  len : acc.length ≤ k
theorem TabTo.add {nms : List Str} {acc : List (Str × Str)} {k : Nat} {w v : Str} (h : TabTo nms acc k) (hw : nms[k]? = some w) (nd : nms.Nodup) (hv : okNm v = true) : w ∉ acc.map (·.1) ∧ TabTo nms (acc ++ [(w, v)]) (k + 1) := by
  have hn : w ∉ nms.take k := fun z => by
    obtain ⟨j, hj⟩ := List.getElem?_of_mem z
    rw [List.getElem?_take] at hj
    split at hj
    · rename_i hlt
      obtain ⟨b0, a0⟩ := List.getElem?_eq_some_iff.mp hj
      obtain ⟨b1, a1⟩ := List.getElem?_eq_some_iff.mp hw
      have := List.pairwise_iff_getElem.mp nd j k b0 b1 hlt
      rw [a0, a1] at this
      exact this rfl
    · cases hj
  have hn' : w ∉ acc.map (·.1) := fun z => by
    obtain ⟨p, hp, rfl⟩ := List.mem_map.mp z
    exact hn (h.sub p hp)
  refine ⟨hn', ?_, fun p hp => ?_, fun p hp => ?_, ?_⟩
  · rw [List.map_append, List.nodup_append]
    exact ⟨h.nd, by simp, fun a ha b hb => by simp at hb; subst hb; exact fun e => hn' (e ▸ ha)⟩
  · rw [take_succ hw]
    rcases List.mem_append.mp hp with z | z
    · exact List.mem_append_left _ (h.sub p z)
    · rw [List.mem_singleton.mp z]; exact List.mem_append_right _ List.mem_cons_self
  · rcases List.mem_append.mp hp with z | z
    · exact h.oks p z
    · rw [List.mem_singleton.mp z]; exact hv
  · rw [List.length_append, List.length_singleton]; have := h.len; omega
end Lm
set_option maxHeartbeats 400000
namespace Lm
open PySem L2 Mir
/-! ## _law_seen -/
/-! ## _law_count -/
/-! ## _law_walk -/
end Lm
set_option maxHeartbeats 400000
namespace Lm
open PySem L2 Mir
variable {C : Cl} {st : Sto}
/-! ## _law_system -/
structure Sys (start : Int) (l : List Stp) (fs : List (Str × Str)) (nms ms : List Str) (m e many : Nat) : Prop where
  made : ∃ labels, Made labels l nms m e ∧ start ∈ labels
  fl : LFlts fs l
  nlen : nms.length = many
  nnd : nms.Nodup
  nok : ∀ x ∈ nms, okNm x = true
  mlen : ms.length = 2
  mok : ∀ x ∈ ms, okNm x = true
  mz : ∀ x ∈ ms, x ≠ Str.ofString "zz"
  fm : ∀ p ∈ fs, p.2 ∈ ms
  f0 : ∃ n m, nms[0]? = some n ∧ (n, m) ∈ fs
section
variable {start : Int} {l : List Stp} {fs : List (Str × Str)} {nms ms : List Str} {m e many : Nat}
theorem Sys.few (h : Sys start l fs nms ms m e many) : (wordsOf l).length ≤ many := by
  obtain ⟨_, h1, _⟩ := h.made
  have := words_few h1.w
  rwa [h.nlen] at this
theorem Sys.len (h : Sys start l fs nms ms m e many) : l.length ≤ m + e + 1 := by
  obtain ⟨_, h1, _⟩ := h.made
  exact h1.len
end
end Lm
set_option maxHeartbeats 400000
namespace Lm
open PySem L2 Mir
end Lm
set_option maxHeartbeats 400000
namespace Lm
open PySem L2 Mir
variable {C : Cl} {st : Sto}
theorem keysD_s : ∀ xs : List Str, keysD (sDs xs) = some (xs.map fun x => (.inr x : Key))
  | [] => rfl
  | x :: xs => by
    have := keysD_s xs
    simp only [sDs] at this
    simp [this, keyD]
theorem sortS_eq (xs : List Str) : (KS.sortK (KS.dedupK (xs.map fun x => (.inr x : Key)))).map ofKey = sDs (sortS xs) := sortS_of fun k => Iff.rfl
/-! the faults that are given, in falling order -/
end Lm
set_option maxHeartbeats 400000
namespace Lm
open PySem L2 Mir
variable {C : Cl} {st : Sto}
theorem flat_s (xs : List Str) (n : Nat) : (sDs xs).all (flatOk (n + 1)) = true := by
  simp only [List.all_eq_true]
  intro x hx
  obtain ⟨y, _, rfl⟩ := List.mem_map.mp hx
  rfl
end Lm
set_option maxHeartbeats 400000
namespace Lm
open PySem L2 Mir
variable {C : Cl} {st : Sto}
theorem flat_str_list {xs : List Str} (h : xs.length ≤ 1000) : flatOk 5 (.lst (sDs xs)) = true := by
  simp only [flatOk, flat_s, Bool.and_true]
  exact decide_eq_true (by rw [List.length_map]; omega)
/-- the frame of the law's loop -/
def f15 (C : Cl) (ns : List Int) (tb : List (Str × Str)) (start : Int) (l : List Stp) (fs : List (Str × Str)) (xs : List Int) (nms ms : List Str) (x4 x10 x11 x12 x13 x14 x15 x16 x17 : Option D) (st : Sto) : RE :=
  ⟨[some (.frl (ns.map D.int)), some (.dic (fDic tb)), some (mch C start l fs xs), some (wch C tb), x4, some (.int start), some (.lst (l.map Stp.d)), some (.dic (fDic fs)), some (.lst (sDs nms)), some (.lst (sDs ms)), x10, x11, x12, x13, x14, x15, x16, x17, none, none], st⟩
end Lm
set_option maxHeartbeats 400000
namespace Lm
open PySem L2 Mir
end Lm
set_option maxHeartbeats 400000
namespace Lm
open PySem L2 Mir
end Lm
set_option maxHeartbeats 400000
namespace Lm
open PySem L2 Mir
variable {C : Cl} {st : Sto}
/-! ## == of rows of texts -/
def OkS (xs : List Str) : Prop := ∀ x ∈ xs, PyData.strOk x = true
end Lm
set_option maxHeartbeats 400000
namespace Lm
open PySem L2 Mir
end Lm
set_option maxHeartbeats 400000
namespace Lm
open PySem L2 Mir
/-! ## _law_further -/
end Lm
set_option maxHeartbeats 400000
namespace Lm
open PySem L2 Mir
end Lm
set_option maxHeartbeats 400000
namespace Lm
open PySem L2 Mir
variable {C : Cl} {st : Sto}
def f17 (C : Cl) (ns : List Int) (tb : List (Str × Str)) (start : Int) (l : List Stp) (fs : List (Str × Str)) (xs : List Int) (nms ms : List Str) (sh : List Int) (st : Sto) (x5 x6 x12 x13 x14 x15 : Option D) (d : D) : RE :=
  ⟨[some (.frl (ns.map D.int)), some (.dic (fDic tb)), some (mch C start l fs xs), some (.lst (jDs sh)), some (.cell st.length), x5, x6, some (.int start), some (.lst (l.map Stp.d)), some (.dic (fDic fs)), some (.lst (sDs nms)), some (.lst (sDs ms)), x12, x13, x14, x15], st ++ [d]⟩
end Lm
set_option maxHeartbeats 400000
namespace Lm
open PySem L2 Mir
end Lm
set_option maxHeartbeats 400000
namespace Mir
open PySem L2
/-! ## runs of mirrors, by what is wanted of their end -/
def Ev {α : Type} (o : Out α) (P : α → Prop) : Prop := ∃ a, o = .ok a ∧ P a
section
variable {α β : Type} {P : α → Prop}
theorem Ev.mono {o : Out α} {Q : α → Prop} (h : Ev o P) (k : ∀ a, P a → Q a) : Ev o Q := let ⟨a, e, p⟩ := h; ⟨a, e, k a p⟩
theorem Ev.ex {o : Out α} (h : Ev o P) : ∃ a, o = .ok a ∧ P a := h
theorem Ev.of {o : Out α} {a : α} (e : o = .ok a) (p : P a) : Ev o P := ⟨a, e, p⟩
@[simp] theorem ev_ok {a : α} : Ev (.ok a) P ↔ P a := ⟨fun ⟨_, e, h⟩ => by cases e; exact h, fun h => ⟨a, rfl, h⟩⟩
@[simp] theorem ev_stuck : Ev (.stuck : Out α) P ↔ False := ⟨fun ⟨_, e, _⟩ => (by cases e), False.elim⟩
@[simp] theorem ev_exc {x : Exn} {s : Sto} : Ev (.exc x s : Out α) P ↔ False := ⟨fun ⟨_, e, _⟩ => (by cases e), False.elim⟩
@[simp] theorem ev_bnd {o : Out β} {f : β → Out α} : Ev (o.bnd f) P ↔ Ev o fun b => Ev (f b) P := by
  cases o with
  | ok b => simp only [bnd_ok, ev_ok]
  | exc x s => exact ⟨fun ⟨_, e, _⟩ => (by cases e), fun ⟨_, e, _⟩ => (by cases e)⟩
  | stuck => exact ⟨fun ⟨_, e, _⟩ => (by cases e), fun ⟨_, e, _⟩ => (by cases e)⟩
@[simp] theorem ev_guard {c : Prop} [Decidable c] {a : Out α} : Ev (if c then a else .stuck) P ↔ c ∧ Ev a P := by
  by_cases h : c
  · rw [if_pos h]; exact ⟨fun z => ⟨h, z⟩, fun z => z.2⟩
  · rw [if_neg h]; exact ⟨fun z => (ev_stuck.mp z).elim, fun z => absurd z.1 h⟩
theorem ev_noX {o : Out α} (h : Ev o P) : Ev (noX o) P := by
  obtain ⟨a, rfl, p⟩ := h
  exact ⟨a, rfl, p⟩
@[simp] theorem ev_noX_iff {o : Out α} : Ev (noX o) P ↔ Ev o P := by
  cases o with
  | ok b => exact Iff.rfl
  | exc x s => exact ⟨fun ⟨_, e, _⟩ => (by cases e), fun ⟨_, e, _⟩ => (by cases e)⟩
  | stuck => exact Iff.rfl
end
/-- what a turn of a loop must bring -/
def LoopP (I : RE → Prop) (P : Fl → Prop) : Fl → Prop
  | .nx r => I r
  | .ct r => I r
  | .bk r => P (.nx r)
  | .rt d r => P (.rt d r)
@[simp] theorem loopP_nx {I : RE → Prop} {P : Fl → Prop} {r : RE} : LoopP I P (.nx r) ↔ I r := Iff.rfl
@[simp] theorem loopP_ct {I : RE → Prop} {P : Fl → Prop} {r : RE} : LoopP I P (.ct r) ↔ I r := Iff.rfl
@[simp] theorem loopP_bk {I : RE → Prop} {P : Fl → Prop} {r : RE} : LoopP I P (.bk r) ↔ P (.nx r) := Iff.rfl
@[simp] theorem loopP_rt {I : RE → Prop} {P : Fl → Prop} {d : D} {r : RE} : LoopP I P (.rt d r) ↔ P (.rt d r) := Iff.rfl
section
variable {α : Type} {st : D → RE → Option RE} {b : RE → Out Fl} {P : Fl → Prop}
/-- a for loop over a list of anything, by what has come -/
theorem ev_loop (i : α → D) (I : List α → RE → Prop) {as : List α} {r : RE} (h0 : I [] r)
    (hs : ∀ pre a post r, as = pre ++ a :: post → I pre r → ∃ r1, st (i a) r = some r1 ∧ Ev (b r1) (LoopP (I (pre ++ [a])) P)) (k : ∀ r, I as r → P (.nx r)) : Ev (mLoop st b (as.map i) r) P := by
  suffices g : ∀ (post pre : List α) (r : RE), as = pre ++ post → I pre r → Ev (mLoop st b (post.map i) r) P from g as [] r rfl h0
  intro post
  induction post with
  | nil =>
    intro pre r e h
    rw [List.append_nil] at e
    subst e
    exact ⟨_, rfl, k r h⟩
  | cons a post ih =>
    intro pre r e h
    obtain ⟨r1, e1, fl, e2, p⟩ := hs pre a post r e h
    rw [List.map_cons]
    unfold mLoop
    rw [e1]
    simp only [e2, bnd_ok]
    cases fl with
    | nx r2 => exact ih (pre ++ [a]) r2 (by rw [e, List.append_assoc]; rfl) p
    | ct r2 => exact ih (pre ++ [a]) r2 (by rw [e, List.append_assoc]; rfl) p
    | bk r2 => exact ⟨_, rfl, p⟩
    | rt d r2 => exact ⟨_, rfl, p⟩
theorem ev_loopD (I : List D → RE → Prop) {as : List D} {r : RE} (h0 : I [] r)
    (hs : ∀ pre a post r, as = pre ++ a :: post → I pre r → ∃ r1, st a r = some r1 ∧ Ev (b r1) (LoopP (I (pre ++ [a])) P)) (k : ∀ r, I as r → P (.nx r)) : Ev (mLoop st b as r) P := by
  have := ev_loop (st := st) (b := b) (P := P) id I (as := as) h0 hs k
  rwa [List.map_id] at this
/-- range(n), by the number of turns done -/
theorem ev_range (I : Nat → RE → Prop) {lo : Int} {n : Nat} {r : RE} (h0 : I 0 r)
    (hs : ∀ k r, k < n → I k r → ∃ r1, st (.int (lo + (k : Nat))) r = some r1 ∧ Ev (b r1) (LoopP (I (k + 1)) P)) (k : ∀ r, I n r → P (.nx r)) : Ev (mLoop st b (rangeD lo n) r) P := by
  refine ev_loopD (fun pre r => I pre.length r) h0 (fun pre a post r e h => ?_) (fun r h => k r (by rwa [rangeD_len] at h))
  have hl : (rangeD lo n).length = pre.length + (post.length + 1) := by rw [e, List.length_append, List.length_cons]
  rw [rangeD_len] at hl
  have hx : (rangeD lo n)[pre.length]? = some a := by rw [e]; simp
  obtain ⟨rfl, hlt⟩ := rangeD_mem hx
  obtain ⟨r1, e1, h1⟩ := hs pre.length r hlt h
  refine ⟨r1, e1, h1.mono fun fl p => ?_⟩
  cases fl <;> first | exact p | (simp only [loopP_nx, loopP_ct, List.length_append, List.length_singleton] at *; exact p)
end
/-! ## statements, one at a time -/
/-- a mark that holds what it names -/
structure Hold {α : Type} (a : α) : Type where
  mk ::
/-- what is wanted behind the first of two -/
def Then (b : RE → Out Fl) (P : Fl → Prop) (_ : Hold (b, P)) : Fl → Prop
  | .nx r => Ev (b r) P
  | f => P f
@[simp] theorem then_nx {b : RE → Out Fl} {P : Fl → Prop} {t : Hold (b, P)} {r : RE} : Then b P t (.nx r) ↔ Ev (b r) P := Iff.rfl
@[simp] theorem then_rt {b : RE → Out Fl} {P : Fl → Prop} {t : Hold (b, P)} {d : D} {r : RE} : Then b P t (.rt d r) ↔ P (.rt d r) := Iff.rfl
@[simp] theorem then_bk {b : RE → Out Fl} {P : Fl → Prop} {t : Hold (b, P)} {r : RE} : Then b P t (.bk r) ↔ P (.bk r) := Iff.rfl
@[simp] theorem then_ct {b : RE → Out Fl} {P : Fl → Prop} {t : Hold (b, P)} {r : RE} : Then b P t (.ct r) ↔ P (.ct r) := Iff.rfl
@[simp] theorem ev_seq {a b : RE → Out Fl} {P : Fl → Prop} {r : RE} : Ev (mSeq a b r) P ↔ Ev (a r) (Then b P ⟨⟩) := by
  unfold mSeq
  rw [ev_bnd]
  constructor
  · rintro ⟨f, e, h⟩
    refine ⟨f, e, ?_⟩
    cases f <;> first | exact h | exact (ev_ok (P := P)).mp h
  · rintro ⟨f, e, h⟩
    refine ⟨f, e, ?_⟩
    cases f <;> first | exact h | exact (ev_ok (P := P)).mpr h
def IfP (a b : RE → Out Fl) (P : Fl → Prop) (_ : Hold (a, b, P)) (p : Bool × RE) : Prop := if p.1 = true then Ev (a p.2) P else Ev (b p.2) P
@[simp] theorem ifP_t {a b : RE → Out Fl} {P : Fl → Prop} {t : Hold (a, b, P)} {r : RE} : IfP a b P t (true, r) ↔ Ev (a r) P := Iff.rfl
@[simp] theorem ifP_f {a b : RE → Out Fl} {P : Fl → Prop} {t : Hold (a, b, P)} {r : RE} : IfP a b P t (false, r) ↔ Ev (b r) P := Iff.rfl
@[simp] theorem ev_if {t : RE → Out (Bool × RE)} {a b : RE → Out Fl} {P : Fl → Prop} {r : RE} : Ev (mIf t a b r) P ↔ Ev (t r) (IfP a b P ⟨⟩) := by
  unfold mIf
  rw [ev_bnd]
  constructor <;>
  · rintro ⟨f, e, h⟩
    refine ⟨f, e, ?_⟩
    obtain ⟨c, r'⟩ := f
    cases c <;> exact h
/-! and, or, in tests -/
def AndP (b : RE → Out (Bool × RE)) (P : Bool × RE → Prop) (_ : Hold (b, P)) (p : Bool × RE) : Prop := if p.1 = true then Ev (b p.2) P else P (false, p.2)
def OrP (b : RE → Out (Bool × RE)) (P : Bool × RE → Prop) (_ : Hold (b, P)) (p : Bool × RE) : Prop := if p.1 = true then P (true, p.2) else Ev (b p.2) P
section
variable {b : RE → Out (Bool × RE)} {P : Bool × RE → Prop} {t : Hold (b, P)} {r : RE} {c : Bool}
@[simp] theorem andP_t : AndP b P t (true, r) ↔ Ev (b r) P := Iff.rfl
@[simp] theorem andP_f : AndP b P t (false, r) ↔ P (false, r) := Iff.rfl
@[simp] theorem orP_t : OrP b P t (true, r) ↔ P (true, r) := Iff.rfl
@[simp] theorem orP_f : OrP b P t (false, r) ↔ Ev (b r) P := Iff.rfl
@[simp] theorem ev_tand {a : RE → Out (Bool × RE)} : Ev (mTAnd a b r) P ↔ Ev (a r) (AndP b P ⟨⟩) := by
  unfold mTAnd
  rw [ev_bnd]
  constructor <;>
  · rintro ⟨f, e, h⟩
    refine ⟨f, e, ?_⟩
    obtain ⟨c, r'⟩ := f
    cases c
    · first | exact (ev_ok (P := P)).mp h | exact (ev_ok (P := P)).mpr h
    · exact h
@[simp] theorem ev_tor {a : RE → Out (Bool × RE)} : Ev (mTOr a b r) P ↔ Ev (a r) (OrP b P ⟨⟩) := by
  unfold mTOr
  rw [ev_bnd]
  constructor <;>
  · rintro ⟨f, e, h⟩
    refine ⟨f, e, ?_⟩
    obtain ⟨c, r'⟩ := f
    cases c
    · exact h
    · first | exact (ev_ok (P := P)).mp h | exact (ev_ok (P := P)).mpr h
end
/-! what an operand is -/
def drc : Option D → Option D
  | some (.lck (.lst ds)) => some (.frl ds)
  | some (.lck d) => some d
  | x => x
@[simp] theorem dr_cl {st : Sto} {c : Nat} : dr st (.cell c) = drc st[c]? := by
  show (match st[c]? with
    | some (.lck (.lst ds)) => some (.frl ds)
    | some (.lck d) => some d
    | x => x) = drc st[c]?
  generalize st[c]? = o
  cases o with
  | none => rfl
  | some d => cases d <;> first | rfl | (rename_i e; cases e <;> rfl)
@[simp] theorem drc_lst {x : List D} : drc (some (.lst x)) = some (.lst x) := rfl
@[simp] theorem drc_dic {x : List (Key × D)} : drc (some (.dic x)) = some (.dic x) := rfl
@[simp] theorem drc_dct {x : List (KN.NK × D)} : drc (some (.dct x)) = some (.dct x) := rfl
@[simp] theorem drc_ins {A : Addr} {x : List (Str × D)} : drc (some (.ins A x)) = some (.ins A x) := rfl
@[simp] theorem drc_ll {x : List D} : drc (some (.lck (.lst x))) = some (.frl x) := rfl
@[simp] theorem drc_ld {x : List (Key × D)} : drc (some (.lck (.dic x))) = some (.dic x) := rfl
@[simp] theorem drc_lt {x : List (KN.NK × D)} : drc (some (.lck (.dct x))) = some (.dct x) := rfl
@[simp] theorem dr_dct (st : Sto) (x : List (KN.NK × D)) : dr st (.dct x) = some (.dct x) := rfl
/-! ## the end of a def -/
def RunP (P : D × Sto → Prop) : Fl → Prop
  | .rt d r => P (d, r.st)
  | .nx r => P (.non, r.st)
  | _ => False
@[simp] theorem runP_rt {P : D × Sto → Prop} {d : D} {r : RE} : RunP P (.rt d r) ↔ P (d, r.st) := Iff.rfl
@[simp] theorem runP_nx {P : D × Sto → Prop} {r : RE} : RunP P (.nx r) ↔ P (.non, r.st) := Iff.rfl
theorem ev_runB {mb : RE → Out Fl} {r : RE} {P : D × Sto → Prop} (h : Ev (mb r) (RunP P)) : Ev (runB mb r) P := by
  unfold runB
  rw [ev_bnd]
  refine h.mono fun f h => ?_
  cases f with
  | nx r => exact ev_ok.mpr h
  | rt d r => exact ev_ok.mpr h
  | bk r => exact h.elim
  | ct r => exact h.elim
theorem ev_def {n N : Nat} {mb : RE → Out Fl} {ds : List D} {st : Sto} {P : D × Sto → Prop} (h : ds.length = n) (k : Ev (mb (startR N ds st)) (RunP P)) : Ev (n0 (fnK n N mb) ds st) P := by
  refine ev_noX ?_
  unfold fnK
  rw [if_pos h]
  exact ev_runB k
/-- for loops -/
@[simp] theorem ev_for {mi : RE → Out (List D × RE)} {st : D → RE → Option RE} {b : RE → Out Fl} {r : RE} {P : Fl → Prop} : Ev (mFor mi st b r) P ↔ Ev (mi r) fun p => Ev (mLoop st b p.1 p.2) P := by
  unfold mFor
  rw [ev_bnd]
end Mir
set_option maxHeartbeats 400000
namespace Lm
open PySem L2 Mir
/-! ## odd things -/
/-! ## == of rows, of dicts -/
/-! ## == of machines -/
end Lm
set_option maxHeartbeats 400000
namespace Lm
open PySem L2 Mir
variable {C : Cl} {st : Sto}
section
variable {labels : List Int} {l l' : List Stp} {nms : List Str} {m e : Nat}
theorem Made.perm (h : Made labels l nms m e) (p : l'.Perm l) : Made labels l' nms m e where
  lnd := h.lnd
  lne := h.lne
  lm := h.lm
  lok := h.lok
  nd := p.nodup_iff.mpr h.nd
  a := fun s hs => h.a s (p.mem_iff.mp hs)
  w := fun s hs => h.w s (p.mem_iff.mp hs)
  b := fun s hs => h.b s (p.mem_iff.mp hs)
  src := fun x hx => let ⟨s, hs, e⟩ := h.src x hx; ⟨s, p.mem_iff.mpr hs, e⟩
  w0 := fun w hw => let ⟨s, hs, e⟩ := h.w0 w hw; ⟨s, p.mem_iff.mpr hs, e⟩
  few := fun x => by
    have := h.few x
    unfold srcN at this ⊢
    rw [p.countP_eq]
    exact this
  len := by rw [p.length_eq]; exact h.len
end
end Lm
set_option maxHeartbeats 400000
namespace Lm
open PySem L2 Mir
end Lm
set_option maxHeartbeats 1000000
namespace Mir
open PySem L2
theorem cut_set {m : Fn} {ds : List D} {st j : Sto} {d d' x : D} {c : Nat} (h : m ds st = .ok (d, st.set c x ++ j)) (ok : okC st.length x = true) (hr : rsv (st.set c x ++ j) st.length 20 d = some d') : cutF m ds st = .ok (d', st.set c x) := by
  unfold cutF
  rw [h]
  simp only [cutR, cutSt_set ok, hr]
end Mir
namespace Lm
open PySem L2 Mir
variable {C : Cl} {st : Sto}
/-! ## the source of the second family -/
def srcD (ns : List Int) (a b t : Int) : D := .lst [.lst (jDs ns), .int a, .int b, .int t]
structure IsSrc (d : D) : Prop where
  ex : ∃ (ns : List Int) (a b t : Int), d = srcD ns a b t ∧ 0 ≤ a ∧ a < ns.length ∧ ns.length ≤ 64
theorem okC_src {n : Nat} {ns : List Int} {a b t : Int} : okC n (srcD ns a b t) = true := by
  have := okCL_j (n := n) ns
  simp [srcD, okC, okCL, this]
theorem IsSrc.okC {n : Nat} {d : D} (h : IsSrc d) : okC n d = true := by
  obtain ⟨ns, a, b, t, rfl, _⟩ := h.ex
  exact okC_src
end Lm
set_option maxHeartbeats 1000000
namespace Lm
open PySem L2 Mir
/-! ## _law_name -/
end Lm
set_option maxHeartbeats 1000000
namespace Lm
open PySem L2 Mir
variable {C : Cl} {st : Sto}
/-! ## _law_names, _law_states -/
structure Few {α : Type} (p : α → Bool) (l : List α) (n : Nat) : Prop where
  nd : l.Nodup
  ok : ∀ x ∈ l, p x = true
  le : l.length ≤ n
  ge : 0 < n → 0 < l.length
theorem Few.nil {α : Type} {p : α → Bool} : Few p ([] : List α) 0 := ⟨List.nodup_nil, fun x h => (by cases h), Nat.le_refl _, fun h => h⟩
theorem Few.old {α : Type} {p : α → Bool} {l : List α} {n : Nat} {a : α} (h : Few p l n) (ha : a ∈ l) : Few p l (n + 1) := ⟨h.nd, h.ok, Nat.le_succ_of_le h.le, fun _ => List.length_pos_of_mem ha⟩
theorem Few.new {α : Type} {p : α → Bool} {l : List α} {n : Nat} {a : α} (h : Few p l n) (ha : a ∉ l) (hp : p a = true) : Few p (l ++ [a]) (n + 1) := by
  refine ⟨?_, fun x hx => ?_, by rw [List.length_append, List.length_singleton]; have := h.le; omega, fun _ => by rw [List.length_append, List.length_singleton]; omega⟩
  · rw [List.nodup_append]
    exact ⟨h.nd, by simp, fun a' ha' b hb e => by rw [List.mem_singleton] at hb; subst hb; subst e; exact ha ha'⟩
  · rcases List.mem_append.mp hx with z | z
    · exact h.ok x z
    · rw [List.mem_singleton] at z; subst z; exact hp
end Lm
set_option maxHeartbeats 1000000
namespace Lm
open PySem L2 Mir
/-! ## _law_step -/
end Lm
set_option maxHeartbeats 1000000
namespace Mir
open PySem L2
section
variable {st l : Sto} {c : Nat} {d x y z : D}
@[simp] theorem getL0 : (st.set c d ++ x :: l)[st.length]? = some x := by rw [List.getElem?_append_right (by rw [List.length_set]; exact Nat.le_refl _), List.length_set, Nat.sub_self]; rfl
@[simp] theorem getL1 : (st.set c d ++ x :: y :: l)[st.length + 1]? = some y := by rw [List.getElem?_append_right (by rw [List.length_set]; omega), List.length_set, Nat.add_sub_cancel_left]; rfl
@[simp] theorem setL0 : (st.set c d ++ x :: l).set st.length z = st.set c d ++ z :: l := by rw [List.set_append_right _ _ (by rw [List.length_set]; exact Nat.le_refl _), List.length_set, Nat.sub_self]; rfl
@[simp] theorem setL1 : (st.set c d ++ x :: y :: l).set (st.length + 1) z = st.set c d ++ x :: z :: l := by rw [List.set_append_right _ _ (by rw [List.length_set]; omega), List.length_set, Nat.add_sub_cancel_left]; rfl
end
end Mir
namespace Lm
open PySem L2 Mir
variable {C : Cl} {st : Sto}
def insAt (l : List Stp) (r : Int) (s : Stp) : List Stp := l.take r.toNat ++ [s] ++ l.drop r.toNat
theorem insAt_perm {l : List Stp} {r : Int} {s : Stp} : (insAt l r s).Perm (s :: l) := by
  unfold insAt
  rw [List.append_assoc]
  exact List.perm_middle.trans (by show (s :: (l.take r.toNat ++ l.drop r.toNat)).Perm (s :: l); rw [List.take_append_drop])
@[simp] theorem dr_stp {so : Sto} {s : Stp} : dr so s.d = some s.d := rfl
structure SInv (as xs : List Int) (ws : List Str) (src : List Int) (most n : Nat) (l : List Stp) : Prop where
  nd : l.Nodup
  a : ∀ s ∈ l, s.a ∈ as
  w : ∀ s ∈ l, s.w ∈ ws
  b : ∀ s ∈ l, s.b ∈ xs
  src : ∀ k ∈ src, ∃ s ∈ l, s.a = k
  few : ∀ k, srcN l k ≤ most
  len : l.length ≤ n
theorem srcN_perm {l m : List Stp} (h : l.Perm m) (k : Int) : srcN l k = srcN m k := h.countP_eq _
theorem SInv.ins {as xs src : List Int} {ws : List Str} {most n : Nat} {l : List Stp} {s : Stp} {r : Int} (h : SInv as xs ws src most n l) (hn : s ∉ l) (ha : s.a ∈ as) (hw : s.w ∈ ws) (hb : s.b ∈ xs) (hf : srcN l s.a < most) : SInv as xs ws (src ++ [s.a]) most (n + 1) (insAt l r s) := by
  have p := insAt_perm (l := l) (r := r) (s := s)
  refine ⟨p.nodup_iff.mpr (List.nodup_cons.mpr ⟨hn, h.nd⟩), fun t ht => ?_, fun t ht => ?_, fun t ht => ?_, fun k hk => ?_, fun k => ?_, ?_⟩
  · rcases List.mem_cons.mp (p.mem_iff.mp ht) with rfl | ht
    · exact ha
    · exact h.a t ht
  · rcases List.mem_cons.mp (p.mem_iff.mp ht) with rfl | ht
    · exact hw
    · exact h.w t ht
  · rcases List.mem_cons.mp (p.mem_iff.mp ht) with rfl | ht
    · exact hb
    · exact h.b t ht
  · rcases List.mem_append.mp hk with hk | hk
    · obtain ⟨t, ht, e⟩ := h.src k hk
      exact ⟨t, p.mem_iff.mpr (List.mem_cons_of_mem _ ht), e⟩
    · rw [List.mem_singleton] at hk
      exact ⟨s, p.mem_iff.mpr List.mem_cons_self, hk.symm⟩
  · rw [srcN_perm p]
    have := h.few k
    unfold srcN at *
    rw [List.countP_cons]
    by_cases e : s.a = k
    · subst e; simp only [decide_true, if_true]; omega
    · simp only [e, decide_false, Bool.false_eq_true, if_false]; omega
  · rw [p.length_eq, List.length_cons]
    have := h.len
    omega
theorem SInv.up {as xs src : List Int} {ws : List Str} {most n m : Nat} {l : List Stp} (h : SInv as xs ws src most n l) (hm : n ≤ m) : SInv as xs ws src most m l := ⟨h.nd, h.a, h.w, h.b, h.src, h.few, Nat.le_trans h.len hm⟩
end Lm
set_option maxHeartbeats 1000000
namespace Lm
open PySem L2 Mir
end Lm
set_option maxHeartbeats 400000
namespace Lm
open PySem L2 Mir
/-! ## candidates and asks: the plain law -/
structure Rw where
  s : Int
  ns : List Str
deriving DecidableEq
abbrev Pb := List Int
def ys (p : Pb) (g : List Rw) : List Rw := g.filter fun r => decide (r.s ∈ p)
def nos (p : Pb) (g : List Rw) : List Rw := g.filter fun r => !decide (r.s ∈ p)
def Sg (g : List Rw) : Prop := ∀ a ∈ g, ∀ b ∈ g, a.ns = b.ns
/-- k asks part the group -/
def Sv (ps : List Pb) : Nat → List Rw → Prop
  | 0, g => Sg g
  | k + 1, g => Sg g ∨ ∃ p ∈ ps, ys p g ≠ [] ∧ nos p g ≠ [] ∧ Sv ps k (ys p g) ∧ Sv ps k (nos p g)
def Lst (ps : List Pb) (x : Option Nat) (g : List Rw) : Prop := ∀ k, Sv ps k g ↔ ∃ m, x = some m ∧ m ≤ k
section
variable {ps qs : List Pb} {g h : List Rw} {x y : Option Nat} {p : Pb} {r : Rw}
theorem Sv.sg {k : Nat} (hs : Sg g) : Sv ps k g := by
  cases k with
  | zero => exact hs
  | succ k => exact .inl hs
theorem Sv.succ : ∀ {k : Nat} {g : List Rw}, Sv ps k g → Sv ps (k + 1) g
  | 0, g, hs => .inl hs
  | k + 1, g, hs => hs.imp id fun ⟨p, hp, h1, h2, h3, h4⟩ => ⟨p, hp, h1, h2, h3.succ, h4.succ⟩
theorem Sv.up {k j : Nat} (hs : Sv ps k g) (hj : k ≤ j) : Sv ps j g := by
  induction hj with
  | refl => exact hs
  | step _ ih => exact ih.succ
theorem Lst.uniq (hx : Lst ps x g) (hy : Lst ps y g) : x = y := by
  cases x with
  | none =>
    cases y with
    | none => rfl
    | some m => obtain ⟨_, e, _⟩ := (hx m).mp ((hy m).mpr ⟨m, rfl, Nat.le_refl _⟩); cases e
  | some n =>
    obtain ⟨m, e, hm⟩ := (hy n).mp ((hx n).mpr ⟨n, rfl, Nat.le_refl _⟩)
    subst e
    obtain ⟨n', e, hn⟩ := (hx m).mp ((hy m).mpr ⟨m, rfl, Nat.le_refl _⟩)
    cases e
    rw [Nat.le_antisymm hm hn]
theorem Lst.zero (hs : Sg g) : Lst ps (some 0) g := fun k => ⟨fun _ => ⟨0, rfl, Nat.zero_le _⟩, fun _ => .sg hs⟩
/-- the best of the probes that have come -/
def Bst (ps : List Pb) (pre : List Pb) (b : Option Nat) (g : List Rw) : Prop :=
  (∀ m, b = some m → 1 ≤ m) ∧ ∀ k, (∃ p ∈ pre, ys p g ≠ [] ∧ nos p g ≠ [] ∧ Sv ps k (ys p g) ∧ Sv ps k (nos p g)) ↔ ∃ m, b = some m ∧ m ≤ k + 1
theorem Bst.nil : Bst ps [] none g := ⟨fun m e => (by cases e), fun k => ⟨fun ⟨p, hp, _⟩ => (by cases hp), fun ⟨m, e, _⟩ => (by cases e)⟩⟩
theorem Bst.more {pre : List Pb} {b : Option Nat} {m n : Nat} (hb : Bst ps pre b g) (h1 : ys p g ≠ []) (h2 : nos p g ≠ []) (hm : Lst ps (some m) (ys p g)) (hn : Lst ps (some n) (nos p g)) :
    Bst ps (pre ++ [p]) (some (match b with | none => 1 + max m n | some c => min c (1 + max m n))) g := by
  have key : ∀ k, (Sv ps k (ys p g) ∧ Sv ps k (nos p g)) ↔ max m n ≤ k := fun k => by
    rw [hm k, hn k]
    constructor
    · rintro ⟨⟨a, e, ha⟩, c, e', hc⟩
      cases e; cases e'
      omega
    · exact fun z => ⟨⟨m, rfl, by omega⟩, n, rfl, by omega⟩
  refine ⟨fun c e => ?_, fun k => ?_⟩
  · cases e
    cases b with
    | none => show 1 ≤ 1 + max m n; omega
    | some c => have := hb.1 c rfl; show 1 ≤ min c (1 + max m n); omega
  · constructor
    · rintro ⟨q, hq, z⟩
      rcases List.mem_append.mp hq with hq | hq
      · obtain ⟨c, rfl, hc⟩ := (hb.2 k).mp ⟨q, hq, z⟩
        exact ⟨_, rfl, by show min c (1 + max m n) ≤ k + 1; omega⟩
      · rw [List.mem_singleton] at hq
        subst hq
        have := (key k).mp z.2.2
        refine ⟨_, rfl, ?_⟩
        cases b with
        | none => show 1 + max m n ≤ k + 1; omega
        | some c => show min c (1 + max m n) ≤ k + 1; omega
    · rintro ⟨c, e, hc⟩
      cases e
      by_cases hk : max m n ≤ k
      · exact ⟨p, by simp, h1, h2, (key k).mpr hk⟩
      · cases b with
        | none => have : 1 + max m n ≤ k + 1 := hc; omega
        | some c =>
          have : min c (1 + max m n) ≤ k + 1 := hc
          obtain ⟨q, hq, z⟩ := (hb.2 k).mpr ⟨c, rfl, by omega⟩
          exact ⟨q, List.mem_append_left _ hq, z⟩
theorem Bst.lst {b : Option Nat} (hb : Bst ps ps b g) (hs : ¬ Sg g) : Lst ps b g := fun k => by
  cases k with
  | zero =>
    refine ⟨fun z => (hs z).elim, ?_⟩
    rintro ⟨m, e, hm⟩
    have := hb.1 m e
    omega
  | succ k =>
    rw [← hb.2 k]
    exact ⟨fun z => z.resolve_left hs, .inr⟩
/-! twins -/
def twin (ps : List Pb) (a b : Rw) : Bool := decide (a.ns ≠ b.ns) && ps.all fun p => decide (a.s ∈ p) == decide (b.s ∈ p)
/-- the first twins, in the order of the rows -/
def tw (ps : List Pb) : List Rw → Option (Rw × Rw)
  | [] => none
  | a :: g => match g.find? (twin ps a) with
    | some b => some (a, b)
    | none => tw ps g
end
/-! what a memo may hold -/
def subs {α : Type} : List α → List (List α)
  | [] => [[]]
  | a :: l => subs l ++ (subs l).map (a :: ·)
theorem subs_len {α : Type} : ∀ {l : List α}, (subs l).length = 2 ^ l.length
  | [] => rfl
  | a :: l => by
    have := subs_len (l := l)
    rw [subs, List.length_append, List.length_map, this, List.length_cons, Nat.pow_succ]
    omega
theorem subs_mem {α : Type} : ∀ {l k : List α}, k.Sublist l → k ∈ subs l
  | _, _, .slnil => by simp [subs]
  | _, _, .cons a h => by rw [subs]; exact List.mem_append_left _ (subs_mem h)
  | _, _, .cons₂ a h => by rw [subs]; exact List.mem_append_right _ (List.mem_map.mpr ⟨_, subs_mem h, rfl⟩)
end Lm
set_option maxHeartbeats 400000
namespace Lm
open PySem PySem.W L2 Mir
variable {C : Cl} {st : Sto}
/-! ## candidates as data -/
def Rw.d (r : Rw) : D := .tup [.int r.s, .tup (sDs r.ns)]
def Rw.p (r : Rw) : PyData := .tuple [.int r.s, .tuple (r.ns.map PyData.str)]
structure Rw.Ok (r : Rw) : Prop where
  s : okSt r.s = true
  few : r.ns.length ≤ 3
  nm : ∀ n ∈ r.ns, okNm n = true
  sorted : sortS r.ns = r.ns
theorem Rw.Ok.str {r : Rw} (h : r.Ok) : OkS r.ns := fun x hx => okNm_str (h.nm x hx)
@[simp] theorem dr_rw {so : Sto} {r : Rw} : dr so r.d = some r.d := rfl
end Lm
set_option maxHeartbeats 400000
namespace Lm
open PySem PySem.W L2 Mir
variable {C : Cl} {st : Sto}
@[simp] theorem eqOk_ii (a b : Int) : eqOk (.int a) (.int b) = true := rfl
@[simp] theorem eqD_ii (a b : Int) : eqD (.int a) (.int b) = decide (a = b) := by
  simp [eqD, scalD, scal]
/-! probes -/
end Lm
set_option maxHeartbeats 400000
namespace Lm
open PySem PySem.W L2 Mir
variable {C : Cl} {st : Sto}
/-! ## settled, parted -/
instance {g : List Rw} : Decidable (Sg g) := inferInstanceAs (Decidable (∀ a ∈ g, ∀ b ∈ g, a.ns = b.ns))
end Lm
set_option maxHeartbeats 400000
namespace Lm
open PySem PySem.W L2 Mir
variable {C : Cl} {st : Sto}
/-! ## the memo -/
def oN : Option Nat → D
  | none => .non
  | some m => .int (m : Nat)
def rk (r : Rw) : KN.NK := .tup [.num r.s, .tup (r.ns.map PySem.NestedKey.text)]
def gk (g : List Rw) : KN.NK := .tup (g.map rk)
abbrev Ent := List Rw × Option Nat
def kvs (f : Option Nat → D) (es : List Ent) : List (KN.NK × D) := es.map fun e => (gk e.1, f e.2)
def memoD (f : Option Nat → D) : List Ent → D
  | [] => .dic []
  | e :: es => .dct (kvs f (e :: es))
structure Memo (G : List Rw) (ps : List Pb) (es : List Ent) : Prop where
  nd : (es.map (·.1)).Nodup
  sub : ∀ e ∈ es, e.1.Sublist G
  lst : ∀ e ∈ es, Lst ps e.2 e.1
theorem Memo.nil {G : List Rw} {ps : List Pb} : Memo G ps [] := ⟨List.nodup_nil, fun e h => (by cases h), fun e h => (by cases h)⟩
theorem Memo.len {G : List Rw} {ps : List Pb} {es : List Ent} (h : Memo G ps es) (hG : G.length ≤ 10) : es.length ≤ 1024 := by
  have := nodup_sub_len (m := subs G) h.nd fun g hg => by
    obtain ⟨e, he, rfl⟩ := List.mem_map.mp hg
    exact subs_mem (h.sub e he)
  rw [List.length_map, subs_len] at this
  exact Nat.le_trans this (Nat.pow_le_pow_right (by omega) hG)
variable {f : Option Nat → D}
end Lm
set_option maxHeartbeats 1000000
namespace Lm
open PySem PySem.W L2 Mir
variable {C : Cl} {st : Sto}
@[simp] theorem drc_memo {f : Option Nat → D} (es : List Ent) : drc (some (memoD f es)) = some (memoD f es) := by cases es <;> rfl
@[simp] theorem dr_oN (x : Option Nat) (so : Sto) : dr so (oN x) = some (oN x) := by cases x <;> rfl
end Lm
set_option maxHeartbeats 1000000
namespace Lm
open PySem PySem.W L2 Mir
variable {C : Cl} {st : Sto}
/-! ## twins -/
@[simp] theorem eqOk_bb (a b : Bool) : eqOk (.bl a) (.bl b) = true := rfl
@[simp] theorem eqD_bb (a b : Bool) : eqD (.bl a) (.bl b) = decide (a = b) := by
  simp [eqD, scalD, scal]
end Lm
set_option maxHeartbeats 1000000
namespace Lm
open PySem PySem.W L2 Mir
/-! ## the law's own twins -/
end Lm
set_option maxHeartbeats 1000000
namespace Lm
open PySem PySem.W L2 Mir
variable {C : Cl} {st : Sto}
theorem sort_subs {xs : List Str} (nd : xs.Nodup) : ∃ rs : List Str, rs.Perm xs ∧ (sDs xs).mergeSort leD = sDs rs ∧ ∀ l, l.Sublist rs → sortS l = l := by
  have key : ∀ k ∈ KS.sortK (xs.map fun x => (.inr x : Key)), ∃ x, k = .inr x := fun k hk => by
    obtain ⟨y, hy, rfl⟩ := List.mem_map.mp ((KS.sortK_perm _).mem_iff.mp hk)
    exact ⟨y, rfl⟩
  have hp : ((KS.sortK (xs.map fun x => (.inr x : Key))).map sOf).Perm xs := by
    have := (KS.sortK_perm (xs.map fun x => (.inr x : Key))).map sOf
    rw [List.map_map] at this
    have e : xs.map (sOf ∘ fun x => (.inr x : Key)) = xs := by
      have : (sOf ∘ fun x => (.inr x : Key)) = id := rfl
      rw [this, List.map_id]
    rwa [e] at this
  refine ⟨(KS.sortK (xs.map fun x => (.inr x : Key))).map sOf, hp, ?_, fun l hl => ?_⟩
  · have := sort_keys (xs.map fun x => (.inr x : Key))
    rw [List.map_map] at this
    have e1 : sDs xs = xs.map (ofKey ∘ fun x => (.inr x : Key)) := rfl
    rw [e1, this]
    simp only [sDs, List.map_map]
    refine List.map_congr_left fun k hk => ?_
    obtain ⟨y, rfl⟩ := key k hk
    rfl
  · have hs := hl.map fun x => (.inr x : Key)
    rw [List.map_map] at hs
    have e : (KS.sortK (xs.map fun x => (.inr x : Key))).map ((fun x => (.inr x : Key)) ∘ sOf) = KS.sortK (xs.map fun x => (.inr x : Key)) := by
      conv => rhs; rw [← List.map_id (KS.sortK _)]
      refine List.map_congr_left fun k hk => ?_
      obtain ⟨y, rfl⟩ := key k hk
      rfl
    rw [e] at hs
    have nl : l.Nodup := hl.nodup (hp.nodup_iff.mpr nd)
    have nk : (l.map fun x => (.inr x : Key)).Nodup := by
      rw [List.nodup_iff_pairwise_ne, List.pairwise_map]
      exact (List.nodup_iff_pairwise_ne.mp nl).imp fun h z => h (Sum.inr.inj z)
    have pw := (KS.sortK_pair (xs.map fun x => (.inr x : Key))).sublist hs
    have pm : (l.map fun x => (.inr x : Key)).Perm (KS.dedupK (l.map fun x => (.inr x : Key))) := KS.perm_of_mem nk KS.nodup_dedup fun k => KS.mem_dedup.symm
    unfold sortS
    rw [← KS.sortK_uniq pm pw, List.map_map]
    have : (sOf ∘ fun x => (.inr x : Key)) = id := rfl
    rw [this, List.map_id]
theorem dSort_strs {xs : List Str} (ok : ∀ x ∈ xs, okNm x = true) (nd : xs.Nodup) : ∃ rs : List Str, rs.Perm xs ∧ dSort (.lst (sDs xs)) = .ok (.lst (sDs rs)) ∧ ∀ l, l.Sublist rs → sortS l = l := by
  obtain ⟨rs, h1, h2, h3⟩ := sort_subs nd
  refine ⟨rs, h1, ?_, h3⟩
  have : sortOk (sDs xs) = true := sortOk_strs fun x hx => okNm_str (ok x hx)
  simp only [dSort, this, h2, if_true]
/-! ## _law_candidates -/
theorem sortS_perm' {xs ys : List Str} (h : ∀ x, x ∈ xs ↔ x ∈ ys) : sortS xs = sortS ys := by
  have e := sortS_of (xs := ys) (ks := xs.map fun x => (.inr x : Key)) fun k => by
    simp only [List.mem_map]
    exact ⟨fun ⟨x, hx, e⟩ => ⟨x, (h x).mp hx, e⟩, fun ⟨x, hx, e⟩ => ⟨x, (h x).mpr hx, e⟩⟩
  rw [sortS_eq] at e
  exact (List.map_inj_right (fun a b h => by cases h; rfl)).mp e
theorem dSort_s {xs : List Str} (ok : ∀ x ∈ xs, okNm x = true) (nd : xs.Nodup) : dSort (.lst (sDs xs)) = .ok (.lst (sDs (sortS xs))) := by
  obtain ⟨rs, h1, h2, h3⟩ := dSort_strs ok nd
  rw [h2, ← h3 rs (List.Sublist.refl _), sortS_perm' fun x => h1.mem_iff]
theorem dListD_f (tb : List (Str × Str)) : dListD (.dic (fDic tb)) = .ok (.lst (sDs (tb.map (·.1)))) := by
  simp only [dListD, fDic, sDs, List.map_map]
  rfl
end Lm
set_option maxHeartbeats 1000000
namespace Lm
open PySem PySem.W L2 Mir
/-! ## sorted names, and what is left of them -/
end Lm
set_option maxHeartbeats 1000000
namespace Lm
open PySem L2 Mir
variable {C : Cl} {st : Sto}
/-- faults of at most two words -/
structure Fl2 (gs : List (Str × Str)) (l : List Stp) : Prop where
  nd : (gs.map (·.1)).Nodup
  sub : ∀ p ∈ gs, p.1 ∈ wordsOf l
  okw : ∀ p ∈ gs, okNm p.1 = true
  okn : ∀ p ∈ gs, okNm p.2 = true
  len : gs.length ≤ 2
theorem Fl2.perm {fs gs : List (Str × Str)} {l : List Stp} (h : Fl2 fs l) (p : gs.Perm fs) : Fl2 gs l :=
  ⟨(p.map _).nodup_iff.mpr h.nd, fun q hq => h.sub q (p.mem_iff.mp hq), fun q hq => h.okw q (p.mem_iff.mp hq), fun q hq => h.okn q (p.mem_iff.mp hq), by rw [p.length_eq]; exact h.len⟩
/-- another name for a word that is there -/
def rename (gs : List (Str × Str)) (w n : Str) : List (Str × Str) := gs.map fun p => if p.1 = w then (p.1, n) else p
theorem rename_keys {gs : List (Str × Str)} {w n : Str} : (rename gs w n).map (·.1) = gs.map (·.1) := by
  unfold rename
  rw [List.map_map]
  refine List.map_congr_left fun p _ => ?_
  simp only [Function.comp]
  split <;> rfl
theorem rename_put {gs : List (Str × Str)} {w n : Str} (h : w ∈ gs.map (·.1)) : putD (fDic gs) (.inr w) (.str n) = fDic (rename gs w n) := by
  have hh : hasD (fDic gs) (.inr w) = true := by
    unfold hasD
    rw [List.any_eq_true]
    obtain ⟨p, hp, rfl⟩ := List.mem_map.mp h
    exact ⟨(.inr p.1, .str p.2), List.mem_map.mpr ⟨p, hp, rfl⟩, by simp⟩
  unfold putD
  rw [if_pos hh]
  unfold rename fDic
  rw [List.map_map, List.map_map]
  refine List.map_congr_left fun p _ => ?_
  simp only [Function.comp]
  by_cases e : p.1 = w
  · rw [if_pos (by rw [e]), if_pos e]
  · rw [if_neg (by simpa using e), if_neg e]
theorem put_new {gs : List (Str × Str)} {w n : Str} (h : w ∉ gs.map (·.1)) : putD (fDic gs) (.inr w) (.str n) = fDic (gs ++ [(w, n)]) := by
  have hh : ¬ hasD (fDic gs) (.inr w) = true := by
    unfold hasD
    rw [List.any_eq_true]
    rintro ⟨q, hq, e⟩
    obtain ⟨p, hp, rfl⟩ := List.mem_map.mp hq
    simp at e
    exact h (List.mem_map.mpr ⟨p, hp, e⟩)
  unfold putD
  rw [if_neg hh]
  simp [fDic]
end Lm
set_option maxHeartbeats 400000
namespace Lm
open PySem L2 Mir
variable {C : Cl} {st : Sto} {tb ub : List (Str × Str)}
/-- a live watch: its cell, its table's cell -/
structure Live (C : Cl) (st : Sto) (c t : Nat) (tb : List (Str × Str)) : Prop where
  w : st[c]? = some (.ins C.Watch [(Str.ofString "table", .cell t)])
  t : st[t]? = some (.dic (fDic tb))
/-- a table, live or frozen -/
def TIn (st : Sto) (d : D) (tb : List (Str × Str)) : Prop := d = .dic (fDic tb) ∨ ∃ t, d = .cell t ∧ st[t]? = some (.dic (fDic tb))
theorem TIn.dr {d : D} (h : TIn st d tb) : dr st d = some (.dic (fDic tb)) := by
  rcases h with rfl | ⟨t, rfl, h⟩
  · rfl
  · simp only [dr_cl, h, drc_dic]
/-! ## Watch(..) -/
theorem watch2_comp {x : D} {tb : List (Str × Str)} {c : Option D} {so : Sto} (h : Table tb) (hx : dr so x = some (.dic (fDic tb))) : mCompG [c, some x, none] (stName 2) (l_Watch_init_2_1 C) (l_Watch_init_2_2 C) appD ((fDic tb).map kvKey) so [] = .ok (fDic tb, so) := by
  have hl := h.len
  have e0 : (fDic tb).map kvKey = tb.map fun p => .str p.1 := by simp only [fDic, List.map_map]; rfl
  rw [e0]
  refine compG_of (fun p : Str × Str => D.str p.1) (fun p => [.str p.1, .str p.2]) (fun _ => true) tb [] _ (fun p hp => ?_) ?_
  · have hk := fDic_look (fs := tb) (w := p.1) (List.mem_map_of_mem hp)
    rw [look_mem h.nd hp] at hk
    refine ⟨⟨[c, some x, some (.str p.1)], so⟩, ⟨[c, some x, some (.str p.1)], so⟩, rfl, rfl, rfl, fun _ => ⟨⟨[c, some x, some (.str p.1)], so⟩, ?_, rfl⟩⟩
    simp only [fDic] at hk hx
    simp [-dr, l_Watch_init_2_2, getA, hk, hx]
  · have e : (tb.filter fun _ => true).map (fun p => [D.str p.1, .str p.2]) = (fDic tb).map fun p => [ofKey p.1, p.2] := by
      rw [List.filter_eq_self.mpr (fun _ _ => rfl)]
      simp only [fDic, List.map_map]
      rfl
    rw [e]
    refine (foldA_dic _ [] ?_ ?_).trans (by simp)
    · have : (([] : List (Key × D)) ++ fDic tb).map (·.1) = (tb.map (·.1)).map fun w => (.inr w : Key) := by simp only [fDic, List.nil_append, List.map_map]; rfl
      rw [this]
      exact nodup_map (fun a b e => by cases e; rfl) h.nd
    · simp only [List.nil_append, fDic, List.length_map]; omega
theorem p_sight_tableT {d : D} (h : Table tb) (hd : TIn st d tb) : f_is_sight_table C [d] st = .ok (.bl true, st) := by
  rcases hd with rfl | ⟨t, rfl, hd⟩
  · exact p_sight_table h
  · have ht : t < st.length := (List.getElem?_eq_some_iff.mp hd).1
    obtain ⟨y1, y2, e⟩ := tab_loop (C := C) (st := st.set t (.lck (.dic (fDic tb)))) (x0 := some (.cell t)) tb none none h.okw h.oks
    refine cut_pure0 ?_ rfl
    have hs : (st.set t (.lck (.dic (fDic tb)))).set t (.dic (fDic tb)) = st := by
      rw [List.set_set]
      exact List.ext_getElem? fun i => by
        by_cases z : t = i
        · subst z; rw [List.getElem?_set_self ht, hd]
        · rw [List.getElem?_set_ne z]
    simp only [fDic] at hd e hs
    simp [-List.map_map, k_is_sight_table, b_is_sight_table, hd]
    rw [e]
    simp [hs]
theorem init2_run {x : D} (h : Table tb) (hx : TIn st x tb) : mkF C.Watch (k_Watch_init_2 C) [x] st = .ok (.cell st.length, st ++ [.ins C.Watch [(Str.ofString "table", .cell (st.length + 2))], .dic [], .dic (fDic tb)]) := by
  have hn : dIsNot (.dic (fDic tb)) .non = .ok (.bl true) := rfl
  have more : ∀ j : Sto, TIn (st ++ j) x tb := fun j => by
    rcases hx with rfl | ⟨t, rfl, hx⟩
    · exact .inl rfl
    · exact .inr ⟨t, rfl, by rw [List.getElem?_append_left (List.getElem?_eq_some_iff.mp hx).1]; exact hx⟩
  have hs := fun j => p_sight_tableT (C := C) h (more j)
  have hd := fun j => (more j).dr
  have ev : Ev (mkF C.Watch (k_Watch_init_2 C) [x] st) fun p => p = (.cell st.length, st ++ [.ins C.Watch [(Str.ofString "table", .cell (st.length + 2))], .dic [], .dic (fDic tb)]) := by
    unfold mkF
    rw [ev_bnd]
    refine ev_def rfl ?_
    simp [-List.map_map, -mSeq, -mIf, -mFor, -mTAnd, -mTOr, -dr, b_Watch_init_2, hd, hs, hn]
    rcases hx with rfl | ⟨t, rfl, hx⟩
    · have wc := watch2_comp (C := C) (x := .dic (fDic tb)) (c := some (.cell st.length)) (so := st ++ [.ins C.Watch [(Str.ofString "table", .cell (st.length + 1))], .dic []]) h rfl
      simp only [fDic] at wc
      simp [-List.map_map, -mSeq, -mIf, -mFor, -mTAnd, -mTOr, -dr, wc]
    · have ht : t < st.length := (List.getElem?_eq_some_iff.mp hx).1
      have hg : (st ++ [D.ins C.Watch [(Str.ofString "table", D.cell (st.length + 1))], D.dic []])[t]? = some (.dic (fDic tb)) := by rw [List.getElem?_append_left ht]; exact hx
      have ht2 : t < (st ++ [D.ins C.Watch [(Str.ofString "table", D.cell (st.length + 1))], D.dic []]).length := by rw [List.length_append]; omega
      have wc := watch2_comp (C := C) (x := .cell t) (c := some (.cell st.length)) (so := (st ++ [D.ins C.Watch [(Str.ofString "table", .cell (st.length + 1))], .dic []]).set t (.lck (.dic (fDic tb)))) h (by simp only [dr_cl, List.getElem?_set_self ht2, drc_ld])
      have hs2 : ((st ++ [D.ins C.Watch [(Str.ofString "table", .cell (st.length + 1))], .dic []]).set t (.lck (.dic (fDic tb)))).set t (.dic (fDic tb)) = st ++ [D.ins C.Watch [(Str.ofString "table", .cell (st.length + 1))], .dic []] := by
        rw [List.set_set]
        exact List.ext_getElem? fun i => by
          by_cases z : t = i
          · subst z; rw [List.getElem?_set_self ht2, hg]
          · rw [List.getElem?_set_ne z]
      simp only [fDic] at wc hg hs2
      simp [-List.map_map, -List.set_append, -mSeq, -mIf, -mFor, -mTAnd, -mTOr, -dr, hg, wc, hs2]
  obtain ⟨p, e, rfl⟩ := ev
  exact e
theorem get3 (st : Sto) (a b c : D) (j : Nat) : (st ++ [a, b, c])[st.length + j]? = [a, b, c][j]? := by
  rw [List.getElem?_append_right (by omega), Nat.add_sub_cancel_left]
theorem rsv_watch {a : Nat} {so : Sto} {n : Nat} (ha : ¬ a < n) (ht : ∃ t, ¬ t < n ∧ so[a]? = some (.ins C.Watch [(Str.ofString "table", .cell t)]) ∧ so[t]? = some (.dic (fDic tb))) : rsv so n 20 (.cell a) = some (wch C tb) := by
  obtain ⟨t, h1, h2, h3⟩ := ht
  rw [rsv_cell (d := .ins C.Watch [(Str.ofString "table", .cell t)]) ha h2]
  show rsv so n 19 (.ins C.Watch [(Str.ofString "table", .cell t)]) = _
  have : ¬ okC n (.ins C.Watch [(Str.ofString "table", .cell t)]) = true := by simp [okC, okCF]; omega
  rw [rsv, if_neg this]
  simp only [mapO2]
  rw [rsv_cell (d := .dic (fDic tb)) h1 h3, show unlck (.dic (fDic tb)) = .dic (fDic tb) from rfl, rsv_ok (by simp only [okC, okC_fDic])]
  rfl
theorem p_wmake2 {x : D} (h : Table tb) (hx : TIn st x tb) : cutF (mkF C.Watch (k_Watch_init_2 C)) [x] st = .ok (wch C tb, st) :=
  cut_rsv (init2_run (C := C) h hx) (rsv_watch (Nat.lt_irrefl _) ⟨st.length + 2, by omega, get3 _ _ _ _ 0, get3 _ _ _ _ 2⟩)
/-! ## what a watch tells -/
end Lm
set_option maxHeartbeats 400000
namespace Lm
open PySem L2 Mir
variable {C : Cl} {st : Sto} {tb ub : List (Str × Str)}
/-! ## tables that grow -/
def putT (tb : List (Str × Str)) (w s : Str) : List (Str × Str) := if w ∈ tb.map (·.1) then rename tb w s else tb ++ [(w, s)]
theorem put_T {w s : Str} : putD (fDic tb) (.inr w) (.str s) = fDic (putT tb w s) := by
  unfold putT
  by_cases h : w ∈ tb.map (·.1)
  · rw [if_pos h, rename_put h]
  · rw [if_neg h, put_new h]
theorem putT_keys {w s x : Str} : x ∈ (putT tb w s).map (·.1) ↔ x ∈ tb.map (·.1) ∨ x = w := by
  unfold putT
  by_cases h : w ∈ tb.map (·.1)
  · rw [if_pos h, rename_keys]
    exact ⟨.inl, fun z => z.elim id fun e => e ▸ h⟩
  · rw [if_neg h]; simp
theorem putT_nd {w s : Str} (h : (tb.map (·.1)).Nodup) : ((putT tb w s).map (·.1)).Nodup := by
  unfold putT
  by_cases hw : w ∈ tb.map (·.1)
  · rw [if_pos hw, rename_keys]; exact h
  · rw [if_neg hw, List.map_append, List.nodup_append]
    exact ⟨h, by simp, fun a ha b hb e => by simp at hb; subst hb; subst e; exact hw ha⟩
theorem putT_len {w s : Str} : (putT tb w s).length ≤ tb.length + 1 := by
  unfold putT
  by_cases hw : w ∈ tb.map (·.1)
  · rw [if_pos hw]; unfold rename; rw [List.length_map]; omega
  · rw [if_neg hw]; simp
theorem putT_mem {w s : Str} {p : Str × Str} (h : p ∈ putT tb w s) : p = (w, s) ∨ (p ∈ tb ∧ p.1 ≠ w) := by
  unfold putT at h
  by_cases hw : w ∈ tb.map (·.1)
  · rw [if_pos hw] at h
    obtain ⟨q, hq, rfl⟩ := List.mem_map.mp h
    by_cases e : q.1 = w
    · rw [if_pos e, e]; exact .inl rfl
    · rw [if_neg e]; exact .inr ⟨hq, e⟩
  · rw [if_neg hw] at h
    rcases List.mem_append.mp h with h | h
    · exact .inr ⟨h, fun e => hw (e ▸ List.mem_map_of_mem h)⟩
    · exact .inl (by simpa using h)
theorem putT_table {w s : Str} (h : Table tb) (hw : okNm w = true) (hs : okNm s = true) (hl : tb.length < 100) : Table (putT tb w s) where
  nd := putT_nd h.nd
  okw := fun p hp => (putT_mem hp).elim (fun e => e ▸ hw) fun e => h.okw p e.1
  oks := fun p hp => (putT_mem hp).elim (fun e => e ▸ hs) fun e => h.oks p e.1
  len := by have := putT_len (tb := tb) (w := w) (s := s); omega
/-! ## within -/
/-! ## a change -/
/-! ## the union -/
end Lm
set_option maxHeartbeats 400000
namespace Lm
open PySem L2 Mir
variable {C : Cl} {st : Sto} {tb ub : List (Str × Str)}
/-! ## words that are seen as themselves -/
structure IdT (tb : List (Str × Str)) (xs : List Str) : Prop where
  t : Table tb
  k : ∀ x, x ∈ tb.map (·.1) ↔ x ∈ xs
  v : ∀ p ∈ tb, p.2 = p.1
end Lm
set_option maxHeartbeats 400000
namespace Lm
open PySem L2 Mir
variable {C : Cl} {st : Sto} {tb ub vb : List (Str × Str)}
/-- the same words with the same sights -/
structure SameT (tb ub : List (Str × Str)) : Prop where
  k : ∀ w, w ∈ tb.map (·.1) ↔ w ∈ ub.map (·.1)
  v : ∀ w ∈ tb.map (·.1), look tb w = look ub w
theorem SameT.refl : SameT tb tb := ⟨fun _ => Iff.rfl, fun _ _ => rfl⟩
theorem SameT.symm (h : SameT tb ub) : SameT ub tb := ⟨fun w => (h.k w).symm, fun w hw => (h.v w ((h.k w).mpr hw)).symm⟩
theorem SameT.trans (h : SameT tb ub) (k : SameT ub vb) : SameT tb vb := ⟨fun w => (h.k w).trans (k.k w), fun w hw => (h.v w hw).trans (k.v w ((h.k w).mp hw))⟩
theorem nd_perm {xs ys : List Str} (h1 : xs.Nodup) (h2 : ys.Nodup) (h : ∀ x, x ∈ xs ↔ x ∈ ys) : xs.Perm ys := (List.perm_ext_iff_of_nodup h1 h2).mpr h
theorem SameT.len (h : SameT tb ub) (a : Table tb) (b : Table ub) : tb.length = ub.length := by
  have := (nd_perm a.nd b.nd h.k).length_eq
  simpa using this
theorem vals_mem (a : Table tb) {x : Str} : x ∈ tb.map (·.2) ↔ ∃ w ∈ tb.map (·.1), look tb w = x := by
  constructor
  · intro h
    obtain ⟨p, hp, rfl⟩ := List.mem_map.mp h
    exact ⟨p.1, List.mem_map_of_mem hp, look_mem a.nd hp⟩
  · rintro ⟨w, hw, rfl⟩
    obtain ⟨p, hp, rfl⟩ := List.mem_map.mp hw
    rw [look_mem a.nd hp]
    exact List.mem_map_of_mem hp
/-- a watch, however it lies -/
def WX (C : Cl) (st : Sto) (d : D) (tb : List (Str × Str)) : Prop := ∃ t, TIn st t tb ∧ dr st d = some (.ins C.Watch [(Str.ofString "table", t)])
theorem p_getitemX {d : D} {w : Str} (hd : WX C st d tb) (hw : okNm w = true) : f_Watch_getitem C [d, .str w] st = .ok (sgt tb w, st) := by
  obtain ⟨t, ht, e⟩ := hd
  refine cut_pure0 ?_ (by unfold sgt; split <;> rfl)
  have n1 : isNm (.str w) = true := hw
  have a1 := p_name (C := C) (st := st) (plain_nm hw)
  rw [n1] at a1
  have hv := val_sgt (tb := tb) (w := w)
  have ev : Ev (k_Watch_getitem C [d, .str w] st) fun p => p = (sgt tb w, st) := by
    refine ev_def rfl ?_
    have hdr := ht.dr
    simp only [fDic] at hv hdr
    simp [-List.map_map, -mSeq, -mIf, -mFor, -mTAnd, -mTOr, -dr, b_Watch_getitem, a1, e, look_tab, hdr, getA, hv]
  obtain ⟨p, e, rfl⟩ := ev
  exact e
/-- len of a watch -/
theorem p_wlen {d : D} (hd : WX C st d tb) (hl : tb.length ≤ 1000) : f_Watch_len C [d] st = .ok (.int (tb.length : Nat), st) := by
  obtain ⟨t, ht, e⟩ := hd
  refine cut_pure0 ?_ rfl
  have ev : Ev (k_Watch_len C [d] st) fun p => p = (.int (tb.length : Nat), st) := by
    refine ev_def rfl ?_
    simp [-List.map_map, -mSeq, -mIf, -mFor, -mTAnd, -mTOr, -dr, b_Watch_len, e, look_tab, ht.dr, d1_one]
  obtain ⟨p, e, rfl⟩ := ev
  exact e
theorem set_set_same {c : Nat} {x y : D} (h : st[c]? = some x) : (st.set c y).set c x = st := by
  rw [List.set_set]
  exact List.ext_getElem? fun i => by
    by_cases z : c = i
    · subst z; rw [List.getElem?_set_self (List.getElem?_eq_some_iff.mp h).1, h]
    · rw [List.getElem?_set_ne z]
end Lm
set_option maxHeartbeats 400000
namespace Lm
open PySem L2 Mir
variable {C : Cl} {st : Sto} {tb ub vb : List (Str × Str)}
/-! ## the operators' tables -/
/-! ## a part of a table -/
theorem filter_table {q : Str × Str → Bool} (h : Table tb) : Table (tb.filter q) where
  nd := h.nd.sublist (List.filter_sublist.map _)
  okw := fun p hp => h.okw p (List.mem_filter.mp hp).1
  oks := fun p hp => h.oks p (List.mem_filter.mp hp).1
  len := Nat.le_trans (List.length_filter_le _ _) h.len
end Lm
set_option maxHeartbeats 400000
namespace Lm
open PySem L2 Mir
variable {C : Cl} {st : Sto} {tb ub vb : List (Str × Str)}
/-- the store with a new watch -/
abbrev nwS (C : Cl) (st : Sto) (tb : List (Str × Str)) : Sto := st ++ [.ins C.Watch [(Str.ofString "table", .cell (st.length + 2))], .dic [], .dic (fDic tb)]
/-! ## operators that make a watch -/
/-! ## in place -/
/-! ## a sight is set, a word is taken out -/
theorem k_set2X {c t : Nat} {w s : Str} (hl : Live C st c t tb) (hw : okNm w = true) (hs : okNm s = true) (hn : tb.length < 1000) : k_Watch_setitem_2 C [.cell c, .str w, .str s] st = .ok (.non, st.set t (.dic (fDic (putT tb w s)))) := by
  have n1 : isNm (.str w) = true := hw
  have n2 : isNm (.str s) = true := hs
  have a1 := p_name (C := C) (st := st) (plain_nm hw)
  have a2 := p_name (C := C) (st := st) (plain_nm hs)
  rw [n1] at a1
  rw [n2] at a2
  have hN : dIsNot (.str s) .non = .ok (.bl true) := rfl
  have lw := hl.w
  have lt := hl.t
  have hp := put_T (tb := tb) (w := w) (s := s)
  have ev : Ev (k_Watch_setitem_2 C [.cell c, .str w, .str s] st) fun p => p = (.non, st.set t (.dic (fDic (putT tb w s)))) := by
    refine ev_def rfl ?_
    simp only [fDic] at lt hp
    have hl2 : (tb.map fun p => ((.inr p.1, D.str p.2) : Key × D)).length < 1000000 := by rw [List.length_map]; omega
    simp [-List.map_map, -List.length_map, -mSeq, -mIf, -mFor, -mTAnd, -mTOr, -dr, b_Watch_setitem_2, a1, a2, hN, lw, lt, look_tab, putA, hp, hl2]
  obtain ⟨p, e, rfl⟩ := ev
  exact e
end Lm
set_option maxHeartbeats 400000
namespace Lm
open PySem L2 Mir
end Lm
set_option maxHeartbeats 400000
namespace Lm
open PySem L2 Mir
variable {l : List Stp}
/-- the step that a thing stands for, at a state -/
def okAt (l : List Stp) (x : Int) : D → Option Stp
  | .int i => if 0 ≤ i then (match l[i.toNat]? with | some s => if s.a = x then some s else none | none => none) else none
  | _ => none
end Lm
set_option maxHeartbeats 400000
namespace Lm
open PySem L2 Mir
variable {C : Cl} {st : Sto} {start : Int} {l : List Stp} {fs tb : List (Str × Str)} {xs : List Int}
/-! ## a row of numbers, held against the machine -/
/-- the first wrong place, or the end -/
def chk (l : List Stp) : Int → Nat → List D → Nat ⊕ Int
  | x, _, [] => .inr x
  | x, o, d :: ds => match okAt l x d with
    | some s => chk l s.b (o + 1) ds
    | none => .inl o
end Lm
set_option maxHeartbeats 400000
namespace Lm
open PySem L2 Mir
end Lm
set_option maxHeartbeats 400000
namespace Lm
open PySem L2 Mir
variable {C : Cl} {st : Sto} {start : Int} {l : List Stp} {fs tb : List (Str × Str)} {xs : List Int}
def dueT (l : List Stp) (start : Int) (ds : List D) : Option Int := match chk l start 0 ds with
  | .inl k => some (k : Int)
  | .inr _ => none
end Lm
set_option maxHeartbeats 400000
namespace Lm
open PySem L2 Mir
variable {C : Cl} {st : Sto}
/-- a row of lists -/
def LsJ (J : List D) : Prop := ∀ i, i < J.length → ∃ ds, J[i]? = some (.lst ds)
theorem LsJ.snoc {J : List D} {ds : List D} (h : LsJ J) : LsJ (J ++ [.lst ds]) := fun i hi => by
  rw [List.length_append, List.length_singleton] at hi
  by_cases e : i < J.length
  · obtain ⟨es, he⟩ := h i e
    exact ⟨es, by rw [List.getElem?_append_left e]; exact he⟩
  · have : i = J.length := by omega
    subst this
    exact ⟨ds, by simp⟩
theorem p_deep2 (k : Nat) (h1 : 1 ≤ k) (hk : k ≤ 100000) : ∃ J, J.length = k ∧ LsJ J ∧ k_law_deep_2 C [.int k] st = .ok (.cell (st.length + (k - 1)), st ++ J) := by
  have h : Ev (k_law_deep_2 C [.int k] st) fun p => ∃ J, J.length = k ∧ LsJ J ∧ p = (.cell (st.length + (k - 1)), st ++ J) := by
    refine ev_def rfl ?_
    have h2 : (k : Int) ≤ 1000000 := by omega
    simp [-mSeq, -mIf, -mFor, -mTAnd, -mTOr, -dr, b_law_deep_2, h2]
    have e : (k : Int).toNat = k := by omega
    try rw [e]
    refine ev_range (fun j r => ∃ J v x2, J.length = j ∧ LsJ J ∧ (0 < j → v = .cell (st.length + (j - 1))) ∧ r = ⟨[some (.int k), some v, x2], st ++ J⟩) ⟨[], .lst [], none, rfl, fun i hi => absurd hi (by simp), fun h => absurd h (by omega), by simp⟩ ?_ ?_
    · rintro j r hj ⟨J, v, x2, hJ, hL, hv, rfl⟩
      refine ⟨_, rfl, ?_⟩
      simp [-mSeq, -mIf, -mFor, -mTAnd, -mTOr, -dr, l_law_deep_2_1]
      exact ⟨J ++ [.lst [v]], by simp [hJ], hL.snoc, by simp [hJ], by simp⟩
    · rintro r ⟨J, v, x2, hJ, hL, hv, rfl⟩
      rw [hv h1]
      simp [-mSeq, -mIf, -mFor, -mTAnd, -mTOr, -dr]
      exact ⟨hJ, hL⟩
  obtain ⟨p, e, J, h1, h2, rfl⟩ := h
  exact ⟨J, h1, h2, e⟩
end Lm
set_option maxHeartbeats 400000
namespace Lm
open PySem L2 Mir
variable {C : Cl} {st : Sto}
/-! ## things whose dicts are cells -/
def isLD : D → Bool
  | .lst _ => true
  | .dic _ => true
  | _ => false
def Hd (st : Sto) (c : Nat) : Prop := ∃ x, st[c]? = some x ∧ isLD x = true
def thingsD (a b c : Nat) : List D := [.non, .bl true, .bl false, .int (-1), .int 100, .int (10000000000000000000000000000000000000000), .str (Str.ofString ""), .str (Str.ofString "a b"), .str (Str.ofString "Abc"), .str (Str.ofString "abcdefghijklm"), .lst [], .cell a, .tup [], .lst [.str (Str.ofString "a")], .tup [.str (Str.ofString "a")], .str (Str.ofString "a\n"), .cell b, .cell c]
/-- a thing, and its cells -/
def Thg (st : Sto) (d : D) : Prop := ∃ a b c, d ∈ thingsD a b c ∧ Hd st a ∧ Hd st b ∧ Hd st c
end Lm
set_option maxHeartbeats 400000
namespace Lm
open PySem L2 Mir
variable {C : Cl} {st : Sto} {start : Int} {l : List Stp} {fs tb : List (Str × Str)} {xs : List Int}
/-- the lists and dicts of a store stay -/
def Ls (st st' : Sto) : Prop := ∀ c : Nat, Hd st c → Hd st' c
theorem Hd.lst {c : Nat} {ds : List D} (h : st[c]? = some (.lst ds)) : Hd st c := ⟨_, h, rfl⟩
theorem Hd.lt {c : Nat} (h : Hd st c) : c < st.length := by
  obtain ⟨x, h, _⟩ := h
  exact (List.getElem?_eq_some_iff.mp h).1
theorem Hd.or {c : Nat} (h : Hd st c) : (∃ ds, st[c]? = some (.lst ds)) ∨ ∃ ks, st[c]? = some (.dic ks) := by
  obtain ⟨x, h, k⟩ := h
  cases x <;> first | exact .inl ⟨_, h⟩ | exact .inr ⟨_, h⟩ | cases k
theorem Ls.app {J : Sto} : Ls st (st ++ J) := fun c ⟨x, h, k⟩ => ⟨x, by rw [List.getElem?_append_left (List.getElem?_eq_some_iff.mp h).1]; exact h, k⟩
theorem Ls.trans {a b c : Sto} (h : Ls a b) (k : Ls b c) : Ls a c := fun i e => k i (h i e)
theorem Ls.set {i : Nat} {ds : List D} : Ls st (st.set i (.lst ds)) := fun c ⟨x, h, k⟩ => by
  by_cases e : i = c
  · subst e
    exact ⟨.lst ds, List.getElem?_set_self (List.getElem?_eq_some_iff.mp h).1, rfl⟩
  · exact ⟨x, by rw [List.getElem?_set_ne e]; exact h, k⟩
/-- what may stand in a path -/
def Elt (st : Sto) (e : D) : Prop := plain e = true ∨ ∃ c, e = .cell c ∧ Hd st c
theorem Elt.mono {st' : Sto} {e : D} (h : Elt st e) (k : Ls st st') : Elt st' e := by
  rcases h with h | ⟨c, rfl, g⟩
  · exact .inl h
  · exact .inr ⟨c, rfl, k c g⟩
theorem Thg.mono {st' : Sto} {e : D} (h : Thg st e) (k : Ls st st') : Thg st' e :=
  let ⟨a, b, c, h, x, y, z⟩ := h; ⟨a, b, c, h, k _ x, k _ y, k _ z⟩
theorem thing_elt {d : D} (h : Thg st d) : Elt st d := by
  obtain ⟨a, b, c, h, x, y, z⟩ := h
  simp only [thingsD, List.mem_cons, List.not_mem_nil, or_false] at h
  rcases h with rfl | rfl | rfl | rfl | rfl | rfl | rfl | rfl | rfl | rfl | rfl | rfl | rfl | rfl | rfl | rfl | rfl | rfl
  all_goals first | (exact .inr ⟨_, rfl, x⟩) | (exact .inr ⟨_, rfl, y⟩) | (exact .inr ⟨_, rfl, z⟩) | (refine .inl ?_; first | rfl | decide)
/-- what may be given for a run, with the wrong place that is due -/
inductive PV (st : Sto) (l : List Stp) (start : Int) : D → Option Int → Prop
  | tup {ds : List D} : (∀ e ∈ ds, Elt st e) → ds.length ≤ 30 → PV st l start (.tup ds) (dueT l start ds)
  | cell {c : Nat} : Hd st c → PV st l start (.cell c) (some (-1))
  | plain {d : D} : plain d = true → dIsi d (.ty "tuple") = .ok (.bl false) → PV st l start d (some (-1))
theorem PV.mono {st' : Sto} {d : D} {o : Option Int} (h : PV st l start d o) (k : Ls st st') : PV st' l start d o := by
  cases h with
  | tup a b => exact .tup (fun e he => (a e he).mono k) b
  | cell g => exact .cell (k _ g)
  | plain a b => exact .plain a b
theorem dr_plain {d : D} (h : plain d = true) : dr st d = some d := by cases d <;> first | rfl | cases h
theorem thing_ok {d : D} (h : Thg st d) : okC st.length d = true := by
  obtain ⟨a, b, c, h, x, y, z⟩ := h
  have x := x.lt
  have y := y.lt
  have z := z.lt
  simp only [thingsD, List.mem_cons, List.not_mem_nil, or_false] at h
  rcases h with rfl | rfl | rfl | rfl | rfl | rfl | rfl | rfl | rfl | rfl | rfl | rfl | rfl | rfl | rfl | rfl | rfl | rfl
  all_goals first | rfl | simp [okC, x, y, z]
theorem thing_dr {d : D} (h : Thg st d) : ∃ e t, dr st d = some e ∧ tyName e = some t := by
  rcases thing_elt h with z | ⟨c, rfl, g⟩
  · refine ⟨d, ?_⟩
    cases d <;> first | (cases z; done) | exact ⟨_, rfl, rfl⟩
  · rcases g.or with ⟨ds, g⟩ | ⟨ds, g⟩
    · exact ⟨.lst ds, _, by simp [g], rfl⟩
    · exact ⟨.dic ds, _, by simp [g], rfl⟩
end Lm
set_option maxHeartbeats 400000
namespace Lm
open PySem L2 Mir
variable {C : Cl} {st : Sto}
/-! ## items of a row that may be spoiled -/
theorem elt_dr {e : D} (h : Elt st e) : plain e = true ∨ ∃ x, dr st e = some x ∧ isLD x = true := by
  rcases h with h | ⟨c, rfl, x, hx, hk⟩
  · exact .inl h
  · refine .inr ⟨x, ?_, hk⟩
    cases x <;> first | (cases hk; done) | (simp only [dr_cl, hx]; rfl)
theorem elt_name {e : D} (h : Elt st e) : f_is_name C [e] st = .ok (.bl (isNm e), st) := by
  rcases h with h | ⟨c, rfl, g⟩
  · exact p_name h
  · have e : f_is_name C [.cell c] st = .ok (.bl false, st) := by
      refine cut_pure0 ?_ rfl
      rcases g.or with ⟨ds, g⟩ | ⟨ds, g⟩ <;> simp [k_is_name, b_is_name, g]
    exact e
/-- the step that an item is -/
def stpOf : D → Option Stp
  | .tup [.int a, .str w, .int b] => if (okSt a && okNm w && okSt b) = true then some ⟨a, w, b⟩ else none
  | _ => none
inductive Itm (st : Sto) : D → Prop
  | t3 {x y z : D} : Elt st x → Elt st y → Elt st z → Itm st (.tup [x, y, z])
  | oth {d : D} : Elt st d → (∀ x y z, d ≠ .tup [x, y, z]) → (∀ ds, d = .tup ds → ds.length ≤ 1000) → Itm st d
theorem Itm.mono {st' : Sto} {d : D} (h : Itm st d) (k : Ls st st') : Itm st' d := by
  cases h with
  | t3 a b c => exact .t3 (a.mono k) (b.mono k) (c.mono k)
  | oth a b c => exact .oth (a.mono k) b c
end Lm
set_option maxHeartbeats 1000000
namespace Lm
open PySem L2 Mir
variable {C : Cl} {st : Sto} {tb : List (Str × Str)}
/-! ## odd things; None is the first alone -/
theorem p_thing5 (r : Int) (h : 0 ≤ r) : ∃ d J, Thg (st ++ J) d ∧ (1 ≤ r % 18 → d ≠ .non) ∧ k_law_thing_3 C [.int r] st = .ok (d, st ++ J) := by
  have h0 : 0 ≤ r % 18 := by omega
  have h1 : r % 18 < 18 := by omega
  have ep : dPow (.int 10) (.int 40) = .ok (.int 10000000000000000000000000000000000000000) := by
    simp only [dPow]
    rw [if_pos (by decide)]
    rfl
  suffices hb : Ev (k_law_thing_3 C [.int r] st) fun p => ∃ d J, Thg (st ++ J) d ∧ (1 ≤ r % 18 → d ≠ .non) ∧ p = (d, st ++ J) by
    obtain ⟨p, e, d, J, a1, a2, rfl⟩ := hb
    exact ⟨d, J, a1, a2, e⟩
  refine ev_def rfl ?_
  have pd := fun so => p_deep2 (C := C) (st := so) 1980 (by omega) (by omega)
  have pd : ∀ so : Sto, ∃ J, J.length = 1980 ∧ LsJ J ∧ k_law_deep_2 C [.int 1980] so = .ok (.cell (so.length + 1979), so ++ J) := pd
  have gA : ∀ (A B E : D) (J : List D), ((st ++ [A] ++ [E] ++ [B]) ++ J)[st.length + 2]? = some B := fun A B E J => by
    rw [List.append_assoc, List.append_assoc, List.append_assoc, List.getElem?_append_right (by omega)]
    simp
  have sA : ∀ (A B E x : D) (J : List D), ((st ++ [A] ++ [E] ++ [B]) ++ J).set (st.length + 2) x = (st ++ [A] ++ [E] ++ [x]) ++ J := fun A B E x J => by
    rw [List.append_assoc, List.append_assoc, List.append_assoc, List.set_append_right _ _ (by omega)]
    simp
  have g0 : ∀ (A B E : D), (st ++ [A] ++ [E] ++ [B])[st.length + 2]? = some B := fun A B E => by
    have := gA A B E []
    rwa [List.append_nil] at this
  have gB : ∀ (A B E F : D) (J : List D), ((st ++ [A] ++ [E] ++ [B]) ++ J ++ [F])[st.length + 2]? = some B := fun A B E F J => by
    have := gA A B E (J ++ [F])
    rwa [← List.append_assoc] at this
  have sB : ∀ (A B E F x : D) (J : List D), ((st ++ [A] ++ [E] ++ [B]) ++ J ++ [F]).set (st.length + 2) x = (st ++ [A] ++ [E] ++ [x]) ++ J ++ [F] := fun A B E F x J => by
    have := sA A B E x (J ++ [F])
    rwa [← List.append_assoc, ← List.append_assoc] at this
  obtain ⟨J, hJ, hL, e⟩ := pd (st ++ [.lst [D.non, D.bl true, D.bl false, D.int (-1), D.int 100, D.int 10000000000000000000000000000000000000000, D.str (Str.ofString ""), D.str (Str.ofString "a b"), D.str (Str.ofString "Abc")]] ++ [.dic []] ++ [.lst [D.non, D.bl true, D.bl false, D.int (-1), D.int 100, D.int 10000000000000000000000000000000000000000, D.str (Str.ofString ""), D.str (Str.ofString "a b"), D.str (Str.ofString "Abc"), D.str (Str.ofString "abcdefghijklm"), D.lst [], D.cell (st.length + 1), D.tup [], D.lst [D.str (Str.ofString "a")], D.tup [D.str (Str.ofString "a")], D.str (Str.ofString "a\n")]])
  have ec : ∀ A B E : D, (st ++ [A] ++ [E] ++ [B]).length + 1979 = st.length + 1982 := fun A B E => by simp
  rw [ec] at e
  obtain ⟨c3, hc3⟩ : ∃ c3, c3 = st.length + 1983 := ⟨_, rfl⟩
  have lJ : ∀ A B E : D, ((st ++ [A] ++ [E] ++ [B]) ++ J).length = c3 := fun A B E => by simp [hJ, hc3]
  have di : ∀ so (i : Int), dr so (.int i) = some (.int i) := fun _ _ => rfl
  have md : dMod (.int r) (.int 18) = .ok (.int (r % 18)) := by
    simp [dMod]
  have mg : mergeD [] [((.inr (Str.ofString "a") : Key), D.int 1)] = [(.inr (Str.ofString "a"), D.int 1)] := rfl
  obtain ⟨d, hd1, hd2⟩ := atI_in (xs := thingsD (st.length + 1) (st.length + 1982) c3) (i := r % 18) h0 (by rw [show (thingsD (st.length + 1) (st.length + 1982) c3).length = 18 from rfl]; exact h1)
  have hnn : 1 ≤ r % 18 → d ≠ .non := fun hr e => by
    obtain ⟨k, hk⟩ : ∃ k : Nat, r % 18 = ((k + 1 : Nat) : Int) := ⟨(r % 18).toNat - 1, by omega⟩
    rw [hk, Int.toNat_natCast, thingsD, List.getElem?_cons_succ] at hd2
    have := List.mem_of_getElem? hd2
    rw [e] at this
    simp at this
  have hm : d ∈ thingsD (st.length + 1) (st.length + 1982) c3 := List.mem_of_getElem? hd2
  have ix : dIxA (.lst (thingsD (st.length + 1) (st.length + 1982) c3)) (.int (r % 18)) = .ok d := by
    simp only [dIxA, dIx, hd1]
  simp only [thingsD] at ix
  have l1 : ∀ A : D, (st ++ [A]).length = st.length + 1 := fun A => by simp
  have l2 : ∀ A E : D, (st ++ [A] ++ [E]).length = st.length + 2 := fun A E => by simp
  simp [-List.length_append, -dPow, -mSeq, -mIf, -mFor, -mTAnd, -mTOr, -dr, -dIxA, -dMod, -List.append_assoc, b_law_thing_3, ep, e, g0, gA, sA, gB, sB, l1, l2, lJ, di, md, mg, ix]
  generalize D.lst [D.non, D.bl true, D.bl false, D.int (-1), D.int 100, D.int 10000000000000000000000000000000000000000, D.str (Str.ofString ""), D.str (Str.ofString "a b"), D.str (Str.ofString "Abc")] = A1
  generalize D.lst [D.non, D.bl true, D.bl false, D.int (-1), D.int 100, D.int 10000000000000000000000000000000000000000, D.str (Str.ofString ""), D.str (Str.ofString "a b"), D.str (Str.ofString "Abc"), D.str (Str.ofString "abcdefghijklm"), D.lst [], D.cell (List.length st + 1), D.tup [], D.lst [D.str (Str.ofString "a")], D.tup [D.str (Str.ofString "a")], D.str (Str.ofString "a\n"), D.cell (List.length st + 1982), D.cell c3] = A2
  refine ⟨d, [A1] ++ [.dic []] ++ [A2] ++ J ++ [.dic [(.inr (Str.ofString "a"), .int 1)]], ⟨st.length + 1, st.length + 1982, c3, hm, ⟨.dic [], ?_, rfl⟩, ?_, ⟨.dic [(.inr (Str.ofString "a"), .int 1)], ?_, rfl⟩⟩, hnn, rfl, by simp only [List.append_assoc]⟩
  · rw [List.getElem?_append_right (by omega)]
    simp
  · obtain ⟨ds, hds⟩ := hL 1979 (by omega)
    refine ⟨.lst ds, ?_, rfl⟩
    rw [List.getElem?_append_right (by omega)]
    simp only [List.append_assoc, List.cons_append, List.nil_append]
    rw [show st.length + 1982 - st.length = 1979 + 1 + 1 + 1 by omega, List.getElem?_cons_succ, List.getElem?_cons_succ, List.getElem?_cons_succ, List.getElem?_append_left (by omega)]
    exact hds
  · rw [List.getElem?_append_right (by omega), hc3]
    simp only [List.append_assoc, List.cons_append, List.nil_append]
    rw [show st.length + 1983 - st.length = 1980 + 1 + 1 + 1 by omega, List.getElem?_cons_succ, List.getElem?_cons_succ, List.getElem?_cons_succ, List.getElem?_append_right (by omega)]
    rw [hJ]
    rfl
/-! ## a word taken out -/
def dropT (tb : List (Str × Str)) (w : Str) : List (Str × Str) := tb.filter fun p => decide (p.1 ≠ w)
theorem drop_T {w : Str} : dropD (fDic tb) (.inr w) = fDic (dropT tb w) := by
  unfold dropD fDic dropT
  rw [List.filter_map]
  congr 1
  refine List.filter_congr fun p _ => ?_
  have : ((.inr p.1 : Key) = .inr w) ↔ p.1 = w := ⟨fun e => Sum.inr.inj e, fun e => by rw [e]⟩
  simp [this]
theorem dropT_table {w : Str} (h : Table tb) : Table (dropT tb w) := filter_table h
theorem dropT_none {w : Str} (h : w ∉ tb.map (·.1)) : dropT tb w = tb := List.filter_eq_self.mpr fun p hp => decide_eq_true fun e => h (e ▸ List.mem_map_of_mem hp)
theorem dropT_keys {w x : Str} : x ∈ (dropT tb w).map (·.1) ↔ x ∈ tb.map (·.1) ∧ x ≠ w := by
  simp only [dropT, List.mem_map, List.mem_filter, decide_eq_true_eq]
  constructor
  · rintro ⟨p, ⟨h1, h2⟩, rfl⟩; exact ⟨⟨p, h1, rfl⟩, h2⟩
  · rintro ⟨⟨p, h1, rfl⟩, h2⟩; exact ⟨p, ⟨h1, h2⟩, rfl⟩
def sgD : Option Str → D
  | some s => .str s
  | none => .non
def setW (tb : List (Str × Str)) (w : Str) : Option Str → List (Str × Str)
  | some s => putT tb w s
  | none => dropT tb w
theorem st_same {c : Nat} {x : D} (h : st[c]? = some x) : st.set c x = st := List.ext_getElem? fun i => by
  by_cases z : c = i
  · subst z; rw [List.getElem?_set_self (List.getElem?_eq_some_iff.mp h).1, h]
  · rw [List.getElem?_set_ne z]
section
variable {c t : Nat} {w : Str} {o : Option Str}
theorem hasD_f (h : w ∈ tb.map (·.1)) : hasD (fDic tb) (.inr w) = true := by
  obtain ⟨p, hp, rfl⟩ := List.mem_map.mp h
  unfold hasD fDic
  rw [List.any_eq_true]
  exact ⟨(.inr p.1, .str p.2), List.mem_map_of_mem (f := fun p : Str × Str => ((.inr p.1 : Key), D.str p.2)) hp, by simp⟩
theorem in_f : dIn (.str w) (.dic (fDic tb)) = .ok (.bl (decide (w ∈ tb.map (·.1)))) := by
  have := fDic_has (fs := tb) (w := w)
  simp only [fDic] at this
  simp [-List.map_append, -List.mem_map, fDic, hasIn, keyD, this]
theorem k_setW (hl : Live C st c t tb) (hw : okNm w = true) (hs : ∀ s, o = some s → okNm s = true) (hn : tb.length < 1000) : k_Watch_setitem_2 C [.cell c, .str w, sgD o] st = .ok (.non, st.set t (.dic (fDic (setW tb w o)))) := by
  cases o with
  | some s => exact k_set2X hl hw (hs s rfl) hn
  | none =>
    have n1 : isNm (.str w) = true := hw
    have a1 := p_name (C := C) (st := st) (plain_nm hw)
    rw [n1] at a1
    have hN : dIsNot .non .non = .ok (.bl false) := rfl
    have lw := hl.w
    have lt := hl.t
    have hp := drop_T (tb := tb) (w := w)
    have hi := in_f (tb := tb) (w := w)
    have ev : Ev (k_Watch_setitem_2 C [.cell c, .str w, .non] st) fun p => p = (.non, st.set t (.dic (fDic (dropT tb w)))) := by
      refine ev_def rfl ?_
      by_cases hk : w ∈ tb.map (·.1)
      · rw [decide_eq_true hk] at hi
        have hh := hasD_f hk
        simp only [fDic] at lt hp hh hi
        simp [-List.map_map, -List.map_append, -dIn, -mSeq, -mIf, -mFor, -mTAnd, -mTOr, -dr, b_Watch_setitem_2, a1, hN, lw, lt, look_tab, hi, hh, hp, fDic]
      · rw [decide_eq_false hk] at hi
        rw [dropT_none hk]
        have hst := st_same lt
        simp only [fDic] at lt hi hst
        simp [-List.map_map, -List.map_append, -dIn, -mSeq, -mIf, -mFor, -mTAnd, -mTOr, -dr, b_Watch_setitem_2, a1, hN, lw, lt, look_tab, hi, fDic, hst]
    obtain ⟨p, e, rfl⟩ := ev
    exact e
theorem x_setW (hl : Live C st c t tb) (hw : okNm w = true) (hs : ∀ s, o = some s → okNm s = true) (hn : tb.length < 1000) : k_Watch_setitem_x C [.cell c, .str w, sgD o] st = .ok (.non, st.set t (.dic (fDic (setW tb w o)))) := by
  have n1 : isNm (.str w) = true := hw
  have a1 := p_name (C := C) (st := st) (plain_nm hw)
  rw [n1] at a1
  have lw := hl.w
  have lt := hl.t
  cases o with
  | some s =>
    have n2 : isNm (.str s) = true := hs s rfl
    have a2 := p_name (C := C) (st := st) (plain_nm (hs s rfl))
    rw [n2] at a2
    have hN : dIsNot (.str s) .non = .ok (.bl true) := rfl
    have hp := put_T (tb := tb) (w := w) (s := s)
    simp only [fDic] at lt hp
    have hl2 : (tb.map fun p => ((.inr p.1, D.str p.2) : Key × D)).length < 1000000 := by rw [List.length_map]; omega
    simp [-dr, -List.map_map, -List.length_map, k_Watch_setitem_x, fnK, b_Watch_setitem_x, startR, sgD, setW, a1, a2, hN, lw, lt, look_tab, putA, hp, hl2, fDic]
  | none =>
    have hN : dIsNot .non .non = .ok (.bl false) := rfl
    have hp := drop_T (tb := tb) (w := w)
    have hi := in_f (tb := tb) (w := w)
    by_cases hk : w ∈ tb.map (·.1)
    · rw [decide_eq_true hk] at hi
      have hh := hasD_f hk
      simp only [fDic] at lt hp hh hi
      simp [-dr, -List.map_map, -dIn, k_Watch_setitem_x, fnK, b_Watch_setitem_x, startR, sgD, setW, a1, hN, lw, lt, look_tab, hi, hh, hp, fDic]
    · rw [decide_eq_false hk] at hi
      rw [show setW tb w none = tb from dropT_none hk]
      have hst := st_same lt
      simp only [fDic] at lt hi hst
      simp [-dr, -List.map_map, -dIn, k_Watch_setitem_x, fnK, b_Watch_setitem_x, startR, sgD, a1, hN, lw, lt, look_tab, hi, fDic, hst]
theorem x_badw {e v x : D} (he : Elt st e) (hb : isNm e = false) : k_Watch_setitem_x C [x, e, v] st = .exc ⟨C.BadWord, [(Str.ofString "value", e)]⟩ st := by
  have a1 := elt_name (C := C) he
  rw [hb] at a1
  simp [-dr, k_Watch_setitem_x, fnK, b_Watch_setitem_x, startR, a1]
theorem x_bads {v x : D} (hw : okNm w = true) (he : Elt st v) (hb : isNm v = false) (hv : v ≠ .non) : k_Watch_setitem_x C [x, .str w, v] st = .exc ⟨C.BadWord, [(Str.ofString "value", v)]⟩ st := by
  have n1 : isNm (.str w) = true := hw
  have a0 := p_name (C := C) (st := st) (plain_nm hw)
  rw [n1] at a0
  have a1 := elt_name (C := C) he
  rw [hb] at a1
  have hd : ∃ e, dr st v = some e ∧ dIsNot e .non = .ok (.bl true) := by
    rcases elt_dr he with h | ⟨e, h, hl⟩
    · exact ⟨v, by cases v <;> first | rfl | (cases h; done), by cases v <;> first | rfl | exact absurd rfl hv | (cases h; done)⟩
    · exact ⟨e, h, by cases e <;> first | rfl | (cases hl; done)⟩
  obtain ⟨e, hd, hN⟩ := hd
  simp [-dr, -dIsNot, k_Watch_setitem_x, fnK, b_Watch_setitem_x, startR, a0, a1, hN, hd]
end
end Lm
set_option maxHeartbeats 400000
namespace Lm
open PySem L2 Mir
variable {C : Cl} {st : Sto}
/-! ## checked_steps of any row -/
/-- the first wrong place -/
def chk3 : List Stp → Nat → List D → Option Nat
  | _, _, [] => none
  | l, i, d :: ds => match stpOf d with
    | none => some i
    | some s => if s ∈ l ∨ 8 ≤ srcN l s.a then some i else chk3 (l ++ [s]) (i + 1) ds
/-- how often each source has stood -/
structure Cnt (l : List Stp) (kvs : List (Key × D)) : Prop where
  iv : Ints kvs
  cnt : ∀ k, cntOf kvs k = srcN l k
  len : kvs.length ≤ l.length
theorem Cnt.put {l : List Stp} {kvs : List (Key × D)} {s : Stp} (h : Cnt l kvs) : Cnt (l ++ [s]) (putD kvs (.inl s.a) (.int (cntOf kvs s.a + 1))) := by
  refine ⟨ints_put h.iv, fun k => ?_, ?_⟩
  · rw [cnt_put]
    have hc := h.cnt
    unfold srcN at hc ⊢
    rw [List.countP_append]
    by_cases e : k = s.a
    · subst e
      rw [if_pos rfl, hc, List.countP_cons_of_pos (by simp)]
      simp
    · rw [if_neg e, hc, List.countP_cons_of_neg (by simpa using fun z => e z.symm)]
      simp
  · have := len_put (kvs := kvs) (k := (.inl s.a : Key)) (v := .int (cntOf kvs s.a + 1))
    have := h.len
    rw [List.length_append, List.length_singleton]
    omega
/-- a row, as a list or as a tuple -/
def RowV (v : D) (ds : List D) : Prop := v = .lst ds ∨ v = .tup ds
end Lm
set_option maxHeartbeats 400000
namespace Lm
open PySem L2 Mir
variable {C : Cl} {st : Sto}
/-! ## a list of one list, in a cell -/
structure RowB (st : Sto) (c b : Nat) : Prop where
  at_ : st[c]? = some (.lst [.cell b]) ∨ st[c]? = some (.lck (.lst [.cell b]))
  ne : b ≠ c
  hd : Hd st b
def lckB (st : Sto) (c b : Nat) : Sto := st.set c (.lck (.lst [.cell b]))
theorem RowB.lt {c b : Nat} (h : RowB st c b) : c < st.length := by
  rcases h.at_ with h | h <;> exact (List.getElem?_eq_some_iff.mp h).1
theorem RowB.app {c b : Nat} {A : Sto} (h : RowB st c b) : RowB (st ++ A) c b := by
  refine ⟨?_, h.ne, Ls.app _ h.hd⟩
  rw [List.getElem?_append_left h.lt]
  exact h.at_
theorem lckB_app {c b : Nat} {A : Sto} (h : c < st.length) : lckB (st ++ A) c b = lckB st c b ++ A := List.set_append_left _ _ h
theorem RowB.lck {c b : Nat} (h : RowB st c b) : RowB (lckB st c b) c b := by
  refine ⟨.inr (List.getElem?_set_self h.lt), h.ne, ?_⟩
  obtain ⟨x, hx, hk⟩ := h.hd
  exact ⟨x, by unfold lckB; rw [List.getElem?_set_ne h.ne.symm]; exact hx, hk⟩
theorem RowB.dr {c b : Nat} (h : RowB st c b) : dr st (.cell c) = some (.lst [.cell b]) ∨ dr st (.cell c) = some (.frl [.cell b]) := by
  rcases h.at_ with h | h
  · exact .inl (by simp only [dr_cl, h]; rfl)
  · exact .inr (by simp only [dr_cl, h]; rfl)
theorem lckB_cut {c b : Nat} (h : RowB st c b) (J : Sto) : cutSt st.length st (lckB st c b ++ J) = some (lckB st c b) := by
  have hb := h.hd.lt
  exact cutSt_set (n := st.length) (d := .lck (.lst [.cell b])) (by simp [okC, okCL, hb]) st J c
end Lm
set_option maxHeartbeats 1000000
namespace Lm
open PySem L2 Mir
variable {C : Cl} {st : Sto}
/-! ## what may be given for the rows -/
def dueS (ds : List D) : Option Int := if 1 ≤ ds.length ∧ ds.length ≤ 80 then (chk3 [] 0 ds).map fun k => ((k : Nat) : Int) else some (-1)
def NotRow (e : D) : Prop := (∃ t, tyName e = some t) ∧ dIsi e (.ty "list") = .ok (.bl false) ∧ dIsi e (.ty "tuple") = .ok (.bl false) ∧ dIsiT e (.tup [.ty "list", .ty "tuple"]) = .ok (.bl false)
inductive RowsI (st : Sto) : D → Sto → Option Int → Prop
  | row {v : D} {ds : List D} : RowV v ds → (∀ d ∈ ds, Itm st d) → ds.length ≤ 500 → RowsI st v st (dueS ds)
  | cell {c b : Nat} : RowB st c b → RowsI st (.cell c) (lckB st c b) (some 0)
  | no {v e : D} : dr st v = some e → NotRow e → RowsI st v st (some (-1))
theorem RowsI.app {v : D} {st' A : Sto} {o : Option Int} (h : RowsI st v st' o) : RowsI (st ++ A) v (st' ++ A) o := by
  cases h with
  | row a b c => exact .row a (fun d hd => (b d hd).mono Ls.app) c
  | cell a => rw [← lckB_app a.lt]; exact .cell a.app
  | no a b =>
    rename_i e
    refine .no (e := e) ?_ b
    cases v with
    | cell c =>
      rw [dr_cl] at a ⊢
      have hl : c < st.length := by
        cases hq : st[c]? with
        | none => rw [hq] at a; cases a
        | some x => exact (List.getElem?_eq_some_iff.mp hq).1
      rw [List.getElem?_append_left hl]
      exact a
    | _ => exact a
/-! ## Machine(..) -/
theorem RowsI.cut {v : D} {st' : Sto} {o : Option Int} (h : RowsI st v st' o) (J : Sto) : cutSt st.length st (st' ++ J) = some st' := by
  cases h with
  | row a b c => exact cutSt_app _ _
  | cell a => exact lckB_cut a J
  | no a b => exact cutSt_app _ _
end Lm
set_option maxHeartbeats 1000000
namespace Lm
open PySem L2 Mir
end Lm
set_option maxHeartbeats 400000
namespace Lm
open PySem L2 Mir
/-! ## pairs of a state and the names of faults -/
abbrev Pr := Int × List Str
/-! ## what can be come to -/
section
variable {α : Type} [DecidableEq α]
inductive RchG (succ : α → List α) (init : List α) : α → Prop
  | base {x : α} : x ∈ init → RchG succ init x
  | step {x t : α} : RchG succ init x → t ∈ succ x → RchG succ init t
structure Okp (p : List α × List α) : Prop where
  nd : p.1.Nodup
  nd2 : p.2.Nodup
  sub : ∀ x ∈ p.2, x ∈ p.1
structure CloG (succ : α → List α) (init : List α) (p : List α × List α) : Prop where
  ok : Okp p
  ini : ∀ x ∈ init, x ∈ p.1
  rch : ∀ x ∈ p.1, RchG succ init x
  done : ∀ x ∈ p.1, x ∉ p.2 → ∀ t ∈ succ x, t ∈ p.1
theorem CloG.all {succ : α → List α} {init met : List α} (h : CloG succ init (met, [])) (x : α) : x ∈ met ↔ RchG succ init x := by
  refine ⟨h.rch x, fun r => ?_⟩
  induction r with
  | base k => exact h.ini _ k
  | step _ k ih => exact h.done _ ih (by simp) _ k
/-- all parts of a list -/
def pw : List α → List (List α)
  | [] => [[]]
  | a :: as => pw as ++ (pw as).map (a :: ·)
theorem pw_len : ∀ xs : List α, (pw xs).length = 2 ^ xs.length
  | [] => rfl
  | a :: as => by
    rw [pw, List.length_append, List.length_map, pw_len as, List.length_cons, Nat.pow_succ]
    omega
theorem pw_filter (q : α → Bool) : ∀ xs : List α, xs.filter q ∈ pw xs
  | [] => by simp [pw]
  | a :: as => by
    have := pw_filter q as
    rw [pw, List.filter_cons]
    split
    · exact List.mem_append_right _ (List.mem_map_of_mem this)
    · exact List.mem_append_left _ this
end
/-! sorted -/
end Lm
set_option maxHeartbeats 400000
namespace Lm
open PySem L2 Mir
theorem sortS_nd (ns : List Str) : (sortS ns).Nodup := by
  unfold sortS
  have : (KS.sortK (KS.dedupK (ns.map fun x => (.inr x : Key)))).Nodup := (KS.sortK_perm _).nodup_iff.mpr KS.nodup_dedup
  rw [List.nodup_iff_pairwise_ne, List.pairwise_map]
  refine (List.nodup_iff_pairwise_ne.mp this).imp_of_mem fun {a b} ha hb hne e => hne ?_
  have ra : ∀ k ∈ KS.sortK (KS.dedupK (ns.map fun x => (.inr x : Key))), ∃ x, k = .inr x := fun k hk => by
    have := KS.mem_dedup.mp ((KS.sortK_perm _).mem_iff.mp hk)
    obtain ⟨x, _, rfl⟩ := List.mem_map.mp this
    exact ⟨x, rfl⟩
  obtain ⟨x, rfl⟩ := ra a ha
  obtain ⟨y, rfl⟩ := ra b hb
  have e : x = y := e
  rw [e]
end Lm
set_option maxHeartbeats 400000
namespace Lm
open PySem L2 Mir
variable {C : Cl} {st : Sto} {start : Int} {l : List Stp} {fs tb : List (Str × Str)} {xs : List Int}
/-! ## one step -/
/-- the pair behind a step -/
def bhd (gs : List (Str × Str)) (q : Pr) (s : Stp) : Pr := if inT gs s.w = true then (if look gs s.w ∈ q.2 then (s.b, q.2) else (s.b, sortS (q.2 ++ [look gs s.w]))) else (s.b, q.2)
/-- the names are those of faults, sorted -/
structure PrIn (start : Int) (l : List Stp) (gs : List (Str × Str)) (q : Pr) : Prop where
  s : q.1 ∈ start :: l.map (·.b)
  n : ∃ ns, q.2 = sortS ns ∧ ∀ x ∈ ns, x ∈ gs.map (·.2)
theorem sortS_len' (ns gs : List Str) (h : ∀ x ∈ ns, x ∈ gs) : (sortS ns).length ≤ gs.length := nodup_sub_len (sortS_nd ns) fun x hx => h x (sortS_sub hx)
theorem PrIn.univ {gs : List (Str × Str)} {q : Pr} (h : PrIn start l gs q) : q ∈ (start :: l.map (·.b)).flatMap fun x => (pw (gs.map (·.2))).map fun g => (x, sortS g) := by
  obtain ⟨ns, e, hn⟩ := h.n
  refine List.mem_flatMap.mpr ⟨q.1, h.s, List.mem_map.mpr ⟨_, pw_filter (fun x => decide (x ∈ ns)) (gs.map (·.2)), ?_⟩⟩
  refine Prod.ext rfl ?_
  show sortS _ = q.2
  rw [e]
  exact sortS_congr fun x => by
    rw [List.mem_filter, decide_eq_true_eq]
    exact ⟨fun z => z.2, fun z => ⟨hn x z, z⟩⟩
theorem univ_len (sts : List Int) (ns : List Str) : (sts.flatMap fun x => (pw ns).map fun g => (x, sortS g)).length = sts.length * 2 ^ ns.length := by
  induction sts with
  | nil => simp
  | cons x sts ih => rw [List.flatMap_cons, List.length_append, List.length_map, pw_len, ih, List.length_cons, Nat.add_mul]; omega
theorem PrIn.few {gs : List (Str × Str)} {ps : List Pr} (nd : ps.Nodup) (h : ∀ p ∈ ps, PrIn start l gs p) : ps.length ≤ (l.length + 1) * 2 ^ gs.length := by
  have := nodup_sub_len nd fun p hp => (h p hp).univ
  rwa [univ_len, List.length_cons, List.length_map, List.length_map] at this
structure OkG (gs : List (Str × Str)) : Prop where
  ok : ∀ p ∈ gs, okNm p.2 = true
  len : gs.length ≤ 20
theorem PrIn.ok {gs : List (Str × Str)} {q : Pr} (hg : OkG gs) (h : PrIn start l gs q) : ∀ x ∈ q.2, okNm x = true := fun x hx => by
  obtain ⟨ns, e, hn⟩ := h.n
  rw [e] at hx
  obtain ⟨p, hp, rfl⟩ := List.mem_map.mp (hn x (sortS_sub hx))
  exact hg.ok p hp
theorem PrIn.nd {gs : List (Str × Str)} {q : Pr} (h : PrIn start l gs q) : q.2.Nodup := by
  obtain ⟨ns, e, _⟩ := h.n
  rw [e]
  exact sortS_nd ns
theorem PrIn.len {gs : List (Str × Str)} {q : Pr} (h : PrIn start l gs q) : q.2.length ≤ gs.length := by
  obtain ⟨ns, e, hn⟩ := h.n
  have := sortS_len' ns _ hn
  rwa [← e, List.length_map] at this
end Lm
set_option maxHeartbeats 400000
namespace Lm
open PySem L2 Mir
end Lm
set_option maxHeartbeats 400000
namespace Lm
open PySem L2 Mir
end Lm
set_option maxHeartbeats 400000
namespace Lm
open PySem L2 Mir
variable {l : List Stp}
/-! ## runs and their last steps -/
theorem toldW_snoc {ts : List (Str × Str)} {ws : List Str} {w : Str} : toldW ts (ws ++ [w]) = toldW ts ws ++ (if inT ts w = true then [look ts w] else []) := by
  unfold toldW
  rw [List.filter_append, List.map_append]
  congr 1
  by_cases h : inT ts w = true
  · rw [if_pos h, List.filter_cons_of_pos h]; rfl
  · rw [if_neg h, List.filter_cons_of_neg h]; rfl
theorem wDs_snoc {ps : List (Nat × Stp)} {z : Nat × Stp} : wDs (ps ++ [z]) = wDs ps ++ [z.2.w] := by unfold wDs; rw [List.map_append]; rfl
end Lm
set_option maxHeartbeats 400000
namespace Lm
open PySem L2 Mir
variable {C : Cl} {st : Sto} {start : Int} {l : List Stp} {fs tb gs : List (Str × Str)} {xs : List Int}
/-! ## runs, seen and done -/
/-- the pair of a run -/
def prOf (gs : List (Str × Str)) (ps : List (Nat × Stp)) (y : Int) : Pr := (y, sortS (toldW gs (wDs ps)))
theorem bhd_pr {ps : List (Nat × Stp)} {y : Int} {n : Nat} {s : Stp} : bhd gs (prOf gs ps y) s = prOf gs (ps ++ [(n, s)]) s.b := by
  unfold bhd prOf
  rw [wDs_snoc, toldW_snoc]
  by_cases h : inT gs s.w = true
  · rw [if_pos h, if_pos h]
    by_cases hm : look gs s.w ∈ sortS (toldW gs (wDs ps))
    · rw [if_pos hm]
      refine Prod.ext rfl (sortS_congr fun x => ?_)
      rw [List.mem_append, List.mem_singleton]
      exact ⟨.inl, fun k => k.elim id fun e => e ▸ sortS_mem.mp hm⟩
    · rw [if_neg hm]
      refine Prod.ext rfl (sortS_congr fun x => ?_)
      rw [List.mem_append, List.mem_append, sortS_mem]
  · rw [if_neg h, if_neg h, List.append_nil]
/-- the pairs of the runs that look so -/
def Est (l : List Stp) (start : Int) (gs tb : List (Str × Str)) (ss : List Str) (p : Pr) : Prop := ∃ ps y, Walk l start ps y ∧ toldW tb (wDs ps) = ss ∧ p = prOf gs ps y
theorem Est.step {ss : List Str} {p : Pr} {n : Nat} {s : Stp} (h : Est l start gs tb ss p) (hs : l[n]? = some s) (ha : s.a = p.1) : Est l start gs tb (ss ++ (if inT tb s.w = true then [look tb s.w] else [])) (bhd gs p s) := by
  obtain ⟨ps, y, hw, ht, rfl⟩ := h
  exact ⟨ps ++ [(n, s)], s.b, hw.snoc hs ha, by rw [wDs_snoc, toldW_snoc, ht], bhd_pr⟩
end Lm
set_option maxHeartbeats 400000
namespace Lm
open PySem L2 Mir
variable {l : List Stp} {start : Int}
/-! ## shorter, or as long and earlier -/
def lexLt : List Nat → List Nat → Prop
  | a :: as, b :: bs => a < b ∨ (a = b ∧ lexLt as bs)
  | _, _ => False
def sl (a b : List Nat) : Prop := a.length < b.length ∨ (a.length = b.length ∧ lexLt a b)
def sle (a b : List Nat) : Prop := sl a b ∨ a = b
theorem lexLt_snoc : ∀ {a b : List Nat} (m n : Nat), lexLt a b → lexLt (a ++ [m]) (b ++ [n])
  | a :: as, b :: bs, m, n, h => by
    simp only [lexLt, List.cons_append] at h ⊢
    rcases h with h | ⟨e, h⟩
    · exact .inl h
    · exact .inr ⟨e, lexLt_snoc m n h⟩
  | [], _, _, _, h => by simp [lexLt] at h
  | _ :: _, [], _, _, h => by simp [lexLt] at h
theorem lexLt_last {m n : Nat} (h : m < n) : ∀ a : List Nat, lexLt (a ++ [m]) (a ++ [n])
  | [] => .inl h
  | a :: as => .inr ⟨rfl, lexLt_last h as⟩
theorem sl_snoc {a b : List Nat} (m n : Nat) (h : sl a b) : sl (a ++ [m]) (b ++ [n]) := by
  rcases h with h | ⟨e, h⟩
  · exact .inl (by rw [List.length_append, List.length_append]; simp; omega)
  · exact .inr ⟨by rw [List.length_append, List.length_append]; simp; omega, lexLt_snoc m n h⟩
theorem sl_last {m n : Nat} (a : List Nat) (h : m < n) : sl (a ++ [m]) (a ++ [n]) := .inr ⟨by simp, lexLt_last h a⟩
theorem sl_nil (a : List Nat) (n : Nat) : sl [] (a ++ [n]) := .inl (by simp)
/-! ## the search in breadth -/
abbrev Qs := List (Int × List Nat)
def bfsIn (P : List Nat) (Q : Qs) (z : Nat × Stp) : Qs := if z.2.b ∈ Q.map (·.1) then Q else Q ++ [(z.2.b, P ++ [z.1])]
structure Bfs (l : List Stp) (start : Int) (Q : Qs) (i : Nat) : Prop where
  nd : (Q.map (·.1)).Nodup
  hd : Q[0]? = some (start, [])
  srt : Q.Pairwise fun a b => sl a.2 b.2
  par : ∀ q ∈ Q, q = (start, []) ∨ ∃ (j : Nat) (u : Int) (P : List Nat) (n : Nat) (s : Stp), j < i ∧ Q[j]? = some (u, P) ∧ l[n]? = some s ∧ s.a = u ∧ q = (s.b, P ++ [n])
  done : ∀ (j : Nat) (u : Int) (P : List Nat) (n : Nat) (s : Stp), j < i → Q[j]? = some (u, P) → l[n]? = some s → s.a = u → ∃ p, (s.b, p) ∈ Q ∧ sle p (P ++ [n])
/-- amid a turn: the numbers in zs are done -/
structure BfsIn (l : List Stp) (start : Int) (Q0 : Qs) (i : Nat) (u : Int) (P : List Nat) (zs : List (Nat × Stp)) (Q : Qs) : Prop where
  ext : ∃ R, Q = Q0 ++ R
  nd : (Q.map (·.1)).Nodup
  srt : Q.Pairwise fun a b => sl a.2 b.2
  par : ∀ q ∈ Q, q ∈ Q0 ∨ ∃ z ∈ zs, q = (z.2.b, P ++ [z.1])
  done : ∀ z ∈ zs, ∃ p, (z.2.b, p) ∈ Q ∧ sle p (P ++ [z.1])
theorem BfsIn.step {Q0 Q : Qs} {i : Nat} {u : Int} {P : List Nat} {zs : List (Nat × Stp)} {z : Nat × Stp} (h0 : Bfs l start Q0 i) (hi : Q0[i]? = some (u, P)) (h : BfsIn l start Q0 i u P zs Q) (hz : ∀ w ∈ zs, w.1 < z.1) : BfsIn l start Q0 i u P (zs ++ [z]) (bfsIn P Q z) := by
  obtain ⟨R, hR⟩ := h.ext
  unfold bfsIn
  -- every path there is ahead of the new one
  have lt : ∀ q ∈ Q, sl q.2 (P ++ [z.1]) := fun q hq => by
    rcases h.par q hq with hq0 | ⟨w, hw, rfl⟩
    · rcases h0.par q hq0 with rfl | ⟨j, v, P', n, s, hj, hq', _, _, rfl⟩
      · exact sl_nil _ _
      · refine sl_snoc n z.1 ?_
        have hjl : j < Q0.length := (List.getElem?_eq_some_iff.mp hq').1
        have hil : i < Q0.length := (List.getElem?_eq_some_iff.mp hi).1
        have := List.pairwise_iff_getElem.mp h0.srt j i hjl hil hj
        rw [(List.getElem?_eq_some_iff.mp hq').2, (List.getElem?_eq_some_iff.mp hi).2] at this
        exact this
    · exact sl_last P (hz w hw)
  split
  · rename_i hm
    obtain ⟨q, hq, e⟩ := List.mem_map.mp hm
    refine ⟨h.ext, h.nd, h.srt, fun q hq => (h.par q hq).imp id fun ⟨w, hw, e⟩ => ⟨w, List.mem_append_left _ hw, e⟩, fun w hw => ?_⟩
    rcases List.mem_append.mp hw with hw | hw
    · exact h.done w hw
    · rw [List.mem_singleton] at hw
      subst hw
      exact ⟨q.2, by rw [← e]; exact hq, .inl (lt q hq)⟩
  · rename_i hm
    refine ⟨⟨R ++ [(z.2.b, P ++ [z.1])], by rw [hR, List.append_assoc]⟩, ?_, ?_, fun q hq => ?_, fun w hw => ?_⟩
    · rw [List.map_append, List.nodup_append]
      exact ⟨h.nd, by simp, fun a ha b hb => by simp at hb; subst hb; exact fun e => hm (e ▸ ha)⟩
    · rw [List.pairwise_append]
      exact ⟨h.srt, by simp, fun a ha b hb => by rw [List.mem_singleton] at hb; subst hb; exact lt a ha⟩
    · rcases List.mem_append.mp hq with hq | hq
      · exact (h.par q hq).imp id fun ⟨w, hw, e⟩ => ⟨w, List.mem_append_left _ hw, e⟩
      · rw [List.mem_singleton] at hq
        exact .inr ⟨z, List.mem_append_right _ (by simp), hq⟩
    · rcases List.mem_append.mp hw with hw | hw
      · obtain ⟨p, h1, h2⟩ := h.done w hw
        exact ⟨p, List.mem_append_left _ h1, h2⟩
      · rw [List.mem_singleton] at hw
        subst hw
        exact ⟨_, List.mem_append_right _ (by simp), .inr rfl⟩
theorem BfsIn.all {Q0 : Qs} {i : Nat} {u : Int} {P : List Nat} (h0 : Bfs l start Q0 i) (hi : Q0[i]? = some (u, P)) : ∀ (zs pre : List (Nat × Stp)) (Q : Qs), (pre ++ zs).Pairwise (fun a b => a.1 < b.1) → BfsIn l start Q0 i u P pre Q → BfsIn l start Q0 i u P (pre ++ zs) (zs.foldl (bfsIn P) Q)
  | [], pre, Q, _, h => by rw [List.append_nil]; exact h
  | z :: zs, pre, Q, hp, h => by
    have hz : ∀ w ∈ pre, w.1 < z.1 := fun w hw => (List.pairwise_append.mp hp).2.2 w hw z List.mem_cons_self
    have := BfsIn.all h0 hi zs (pre ++ [z]) (bfsIn P Q z) (by rw [List.append_assoc]; exact hp) (h.step h0 hi hz)
    rw [List.append_assoc] at this
    exact this
theorem Bfs.zero : Bfs l start [(start, [])] 0 := ⟨by simp, rfl, by simp, fun q hq => .inl (by simpa using hq), fun j u P n s hj => by omega⟩
end Lm
set_option maxHeartbeats 400000
namespace Lm
open PySem L2 Mir
variable {C : Cl} {st : Sto} {start : Int} {l : List Stp} {fs : List (Str × Str)} {xs : List Int}
/-- the states of the search -/
def InS (l : List Stp) (start : Int) (Q : Qs) : Prop := ∀ q ∈ Q, q.1 ∈ start :: l.map (·.b)
theorem InS.len {Q : Qs} (h : InS l start Q) (nd : (Q.map (·.1)).Nodup) : Q.length ≤ l.length + 1 := by
  have := nodup_sub_len nd (m := start :: l.map (·.b)) fun x hx => by
    obtain ⟨q, hq, rfl⟩ := List.mem_map.mp hx
    exact h q hq
  simpa using this
end Lm
set_option maxHeartbeats 400000
namespace Lm
open PySem L2 Mir
/-! ## how far a state is from the goal -/
end Lm
set_option maxHeartbeats 400000
namespace Lm
open PySem L2 Mir
end Lm
set_option maxHeartbeats 400000
namespace Lm
open PySem L2 Mir
end Lm
set_option maxHeartbeats 400000
namespace Lm
open PySem L2 Mir
end Lm
set_option maxHeartbeats 400000
namespace Lm
open PySem L2 Mir
end Lm
set_option maxHeartbeats 400000
namespace Lm
open PySem L2 Mir
end Lm
set_option maxHeartbeats 400000
namespace Lm
open PySem L2 Mir
end Lm
set_option maxHeartbeats 400000
namespace Lm
open PySem L2 Mir
/-! ## is_renumbering -/
end Lm
set_option maxHeartbeats 400000
namespace Lm
open PySem L2 Mir
/-! ## what is refused -/
end Lm
set_option maxHeartbeats 1000000
namespace Lm
open PySem L2 Mir
variable {C : Cl} {st : Sto} {xs : List Int} {od : List (Int × Int)}
/-! ## _law_wrongs -/
def val (od : List (Int × Int)) (x : Int) : Int := ((od.find? fun p => decide (p.1 = x)).map (·.2)).getD 0
def ScV (v : D) : Prop := plain v = true ∧ (∀ so, dr so v = some v) ∧ scB v v = some true
end Lm
set_option maxHeartbeats 1000000
namespace Lm
open PySem L2 Mir
end Lm
set_option maxHeartbeats 200000
namespace Lm
open PySem L2 Mir
end Lm
set_option maxHeartbeats 400000
namespace Lm
open PySem L2 Mir
/-! ## fit_faults -/
end Lm
set_option maxHeartbeats 400000
namespace Lm
open PySem L2 Mir
variable {C : Cl} {st : Sto} {start : Int} {l : List Stp} {fs : List (Str × Str)} {xs : List Int} {od : List (Int × Int)}
/-! ## renumbered: plain facts -/
theorem mem_keepF {ws : List Str} (nd : (fs.map (·.1)).Nodup) {p : Str × Str} (h : p ∈ keepF fs ws) : p ∈ fs ∧ p.1 ∈ ws := by
  obtain ⟨w, hw, rfl⟩ := List.mem_map.mp h
  obtain ⟨h1, h2⟩ := List.mem_filter.mp hw
  obtain ⟨q, hq, rfl⟩ := List.mem_map.mp (of_decide_eq_true h2)
  rw [look_mem nd hq]
  exact ⟨hq, h1⟩
theorem Flts.keep {ws vs : List Str} (h : Flts fs ws) (nd : vs.Nodup) (hl : vs.length ≤ 1000) : Flts (keepF fs vs) vs where
  okw := fun p hp => h.okw p (mem_keepF h.nd hp).1
  okn := fun p hp => h.okn p (mem_keepF h.nd hp).1
  sub := fun p hp => (mem_keepF h.nd hp).2
  nd := keepF_nd nd
  wnd := nd
  len := hl
  few := fun ns n1 n2 => h.few ns n1 fun n hn => by
    obtain ⟨p, hp, rfl⟩ := List.mem_map.mp (n2 n hn)
    exact List.mem_map_of_mem (mem_keepF h.nd hp).1
/-! ## renumbered -/
end Lm
set_option maxHeartbeats 400000
namespace Lm
open PySem L2 Mir
variable {C : Cl} {st : Sto} {start : Int} {l : List Stp} {fs : List (Str × Str)} {xs ys zs : List Int} {od : List (Int × Int)} {a r : Int}
/-! ## the law's order and its way back -/
/-- what is kept -/
def kept (fs : List (Str × Str)) (R : List Stp) (ks : List Str) : List (Str × Str) := (ks.filter fun w => decide (w ∈ R.map (·.w))).map fun w => (w, look fs w)
end Lm
set_option maxHeartbeats 400000
namespace Lm
open PySem L2 Mir
/-! ## the law's tests -/
end Lm
set_option maxHeartbeats 400000
namespace Lm
open PySem L2 Mir
/-! ## _law_bad_step -/
end Lm
set_option maxHeartbeats 400000
namespace Lm
open PySem L2 Mir
end Lm
set_option maxHeartbeats 400000
namespace Lm
open PySem L2 Mir
/-! ## _law_due -/
end Lm
set_option maxHeartbeats 400000
namespace Lm
open PySem L2 Mir
/-! ## _law_made -/
/-! ## _law_due of good things -/
end Lm
set_option maxHeartbeats 1000000
namespace Lm
open PySem L2 Mir
variable {C : Cl} {st : Sto}
/-! ## odd things, told closer -/
def LsK (n : Nat) (J : List D) : Prop := ∀ i, i < J.length → J[i]? = some (.lst [if i = 0 then .lst [] else .cell (n + (i - 1))])
theorem LsK.snoc {n : Nat} {J : List D} (h : LsK n J) : LsK n (J ++ [.lst [if J.length = 0 then .lst [] else .cell (n + (J.length - 1))]]) := fun i hi => by
  rw [List.length_append, List.length_singleton] at hi
  by_cases e : i < J.length
  · rw [List.getElem?_append_left e]; exact h i e
  · have : i = J.length := by omega
    subst this
    simp
def Thg4 (st : Sto) (d : D) : Prop := ∃ a b b' c, d ∈ thingsD a b c ∧ st[a]? = some (.dic []) ∧ (st[b]? = some (.lst [.cell b']) ∧ b' ≠ b ∧ Hd st b') ∧ ∃ ks, st[c]? = some (.dic ks)
theorem Thg4.thg {d : D} (h : Thg4 st d) : Thg st d := by
  obtain ⟨a, b, b', c, h, x, y, ks, z⟩ := h
  exact ⟨a, b, c, h, ⟨_, x, rfl⟩, ⟨_, y.1, rfl⟩, ⟨_, z, rfl⟩⟩
end Lm
set_option maxHeartbeats 400000
namespace Lm
open PySem L2 Mir
end Lm
set_option maxHeartbeats 400000
namespace Lm
open PySem L2 Mir
/-! ## the law's question -/
end Lm
set_option maxHeartbeats 400000
namespace Lm
open PySem L2 Mir
variable {C : Cl} {st : Sto}
theorem Thg4.app {d : D} {A : Sto} (h : Thg4 st d) : Thg4 (st ++ A) d := by
  obtain ⟨a, b, b', c, h, x, ⟨y1, y2, y3⟩, ks, z⟩ := h
  have g : ∀ {i : Nat} {e : D}, st[i]? = some e → (st ++ A)[i]? = some e := fun z => by rw [List.getElem?_append_left (List.getElem?_eq_some_iff.mp z).1]; exact z
  exact ⟨a, b, b', c, h, g x, ⟨g y1, y2, Ls.app _ y3⟩, ks, g z⟩
theorem Thg4.elt {d : D} (h : Thg4 st d) : Elt st d := thing_elt h.thg
/-! ## spoiled rows -/
def Bad (ds : List D) : Prop := (∃ (i : Nat) (d : D), ds[i]? = some d ∧ stpOf d = none) ∨ ∃ (i j : Nat) (d : D), i < j ∧ ds[i]? = some d ∧ ds[j]? = some d
/-- what a spoiling does -/
def Sp (ds ds' : List D) : Prop := ds' = ds ∨ ∃ (i : Nat) (x : D), i < ds.length ∧ ds' = ds.set i x ∧ (stpOf x = none ∨ ∃ j : Nat, ds[j]? = some x)
theorem Sp.keep {base ds ds' : List D} (h : Sp ds ds') (hq : ds = base ∨ Bad ds) : ds' = base ∨ Bad ds' := by
  rcases h with rfl | ⟨i, x, hi, rfl, hx⟩
  · exact hq
  · have gi : (ds.set i x)[i]? = some x := List.getElem?_set_self hi
    rcases hx with hx | ⟨j, hj⟩
    · exact .inr (.inl ⟨i, x, gi, hx⟩)
    · by_cases e : i = j
      · subst e
        have : ds.set i x = ds := by
          refine List.ext_getElem? fun k => ?_
          by_cases e : i = k
          · subst e; rw [gi, hj]
          · rw [List.getElem?_set_ne e]
        rw [this]
        exact hq
      · have gj : (ds.set i x)[j]? = some x := by rw [List.getElem?_set_ne e]; exact hj
        rcases Nat.lt_or_gt_of_ne e with z | z
        · exact .inr (.inr ⟨i, j, x, z, gi, gj⟩)
        · exact .inr (.inr ⟨j, i, x, z, gj, gi⟩)
end Lm
set_option maxHeartbeats 400000
namespace Lm
open PySem L2 Mir
variable {C : Cl} {st : Sto} {tb : List (Str × Str)} {c t : Nat} {w : Str} {o : Option Str}
theorem cut_set1 {m : Fn} {ds : List D} {d x : D} {c : Nat} (h : m ds st = .ok (d, st.set c x)) (ok : okC st.length x = true) (hd : okC st.length d = true) : cutF m ds st = .ok (d, st.set c x) :=
  cut_set (j := []) (by rw [List.append_nil]; exact h) ok (rsv_ok hd)
abbrev tagS (s : String) (d : D) : D := .lst [.str (Str.ofString s), d]
theorem set_ok (hl : Live C st c t tb) (hw : okNm w = true) (hs : ∀ s, o = some s → okNm s = true) (hn : tb.length < 1000) : f_law_set C [.cell c, .str w, sgD o] st = .ok (tagS "set" .non, st.set t (.dic (fDic (setW tb w o)))) := by
  refine cut_set1 ?_ (by simp only [okC, okC_fDic]) rfl
  have e := x_setW (o := o) hl hw hs hn
  have hd := hl.w
  generalize D.dic (fDic (setW tb w o)) = X at *
  simp [-dr, k_law_set, fnK, b_law_set, startR, l_law_set_1, mTry, hand, hd, e]
theorem set_badw {e v : D} (hl : Live C st c t tb) (he : Elt st e) (hb : isNm e = false) (ok : okC st.length e = true) : f_law_set C [.cell c, e, v] st = .ok (tagS "refused" e, st) := by
  refine cut_pure0 ?_ (by simp [okC, okCL, ok])
  have e1 := x_badw (C := C) (x := .cell c) (v := v) he hb
  have hd : dr st (.cell c) = some (.ins C.Watch [(Str.ofString "table", .cell t)]) := by rw [dr_cl, hl.w]; rfl
  simp [-dr, k_law_set, fnK, b_law_set, startR, l_law_set_1, mTry, hand, hd, e1]
theorem set_bads {v : D} (hl : Live C st c t tb) (hw : okNm w = true) (he : Elt st v) (hb : isNm v = false) (hv : v ≠ .non) (ok : okC st.length v = true) : f_law_set C [.cell c, .str w, v] st = .ok (tagS "refused" v, st) := by
  refine cut_pure0 ?_ (by simp [okC, okCL, ok])
  have e1 := x_bads (C := C) (x := .cell c) hw he hb hv
  have hd : dr st (.cell c) = some (.ins C.Watch [(Str.ofString "table", .cell t)]) := by rw [dr_cl, hl.w]; rfl
  simp [-dr, k_law_set, fnK, b_law_set, startR, l_law_set_1, mTry, hand, hd, e1]
theorem eq_set {so : Sto} : eqTop so (tagS "set" .non) (tagS "set" .non) = some true := by
  simp [eqTop, selfL, topB, allB, itB, sameG, scB]
theorem eq_ref {d : D} (h : Thg st d) (so : Sto) : eqTop so (tagS "refused" d) (tagS "refused" d) = some true := by
  obtain ⟨a, b, c, h, _⟩ := h
  simp only [thingsD, List.mem_cons, List.not_mem_nil, or_false] at h
  rcases h with rfl | rfl | rfl | rfl | rfl | rfl | rfl | rfl | rfl | rfl | rfl | rfl | rfl | rfl | rfl | rfl | rfl | rfl
  all_goals simp [eqTop, selfL, topB, allB, itB, sameG, scB]
theorem thing_nm {d : D} (h : Thg st d) : isNm d = false := by
  obtain ⟨a, b, c, h, _⟩ := h
  simp only [thingsD, List.mem_cons, List.not_mem_nil, or_false] at h
  rcases h with rfl | rfl | rfl | rfl | rfl | rfl | rfl | rfl | rfl | rfl | rfl | rfl | rfl | rfl | rfl | rfl | rfl | rfl
  all_goals first | rfl | decide
end Lm
set_option maxHeartbeats 400000
namespace Lm
open PySem L2 Mir
variable {C : Cl} {st : Sto} {tb : List (Str × Str)} {c t : Nat} {w : Str}
theorem k_words2 (h : Table tb) (hl : Live C st c t tb) : k_Watch_words_2 C [.cell c] st = .ok (.cell st.length, st ++ [.lst (sDs (sortS (tb.map (·.1))))]) := by
  have h1 := dSort_s (xs := tb.map (·.1)) (fun x hx => by obtain ⟨p, hp, rfl⟩ := List.mem_map.mp hx; exact h.okw p hp) h.nd
  have hd : dr st (.cell c) = some (.ins C.Watch [(Str.ofString "table", .cell t)]) := by rw [dr_cl, hl.w]; rfl
  have ht : dr st (.cell t) = some (.dic (fDic tb)) := by rw [dr_cl, hl.t]; rfl
  have ev : Ev (k_Watch_words_2 C [.cell c] st) fun p => p = (.cell st.length, st ++ [.lst (sDs (sortS (tb.map (·.1))))]) := by
    refine ev_def rfl ?_
    simp [-dSort, -dListD, -List.map_map, -mSeq, -mIf, -mFor, -mTAnd, -mTOr, -dr, b_Watch_words_2, hd, look_tab, ht, dListD_f, h1]
  obtain ⟨p, e, rfl⟩ := ev
  exact e
theorem sights_comp2 {so : Sto} {s0 : List (Option D)} {tb : List (Str × Str)} (hl : tb.length ≤ 100) (h0 : s0.length = 2) : mCompG s0 (stName 1) (l_Watch_sights_2_1 C) (l_Watch_sights_2_2 C) appK ((fDic tb).map kvVal) so [] = .ok ((tb.map fun p => (.inr p.2 : Key)).reverse, so) := by
  have e0 : (fDic tb).map kvVal = tb.map fun p => .str p.2 := by simp only [fDic, List.map_map]; rfl
  rw [e0]
  obtain ⟨a, b, rfl⟩ : ∃ a b, s0 = [a, b] := by
    match s0, h0 with
    | [a, b], _ => exact ⟨a, b, rfl⟩
  refine compG_of (fun p : Str × Str => D.str p.2) (fun p => [.str p.2]) (fun _ => true) tb [] _ (fun p hp => ?_) ?_
  · exact ⟨⟨[a, some (.str p.2)], so⟩, ⟨[a, some (.str p.2)], so⟩, rfl, rfl, rfl, fun _ => ⟨⟨[a, some (.str p.2)], so⟩, rfl, rfl⟩⟩
  · have e : (tb.filter fun _ => true).map (fun p => [D.str p.2]) = (tb.map fun p => (.inr p.2 : Key)).map fun k => [ofKey k] := by
      rw [List.filter_eq_self.mpr (fun _ _ => rfl), List.map_map]
      rfl
    rw [e, foldA_keys _ [] (by simp; omega), List.append_nil]
theorem k_sights2 (h : Table tb) (hl : Live C st c t tb) : k_Watch_sights_2 C [.cell c] st = .ok (.cell st.length, st ++ [.lst (sDs (sortS (tb.map (·.2))))]) := by
  have hs : (KS.sortK (KS.dedupK (tb.map fun p => (.inr p.2 : Key)).reverse)).map ofKey = sDs (sortS (tb.map (·.2))) := sortS_of fun k => by simp [List.mem_map]
  have hh : KS.hom (tb.map fun p => (.inr p.2 : Key)).reverse = true := allS_inr fun k hk => by
    obtain ⟨p, _, rfl⟩ := List.mem_map.mp (List.mem_reverse.mp hk)
    exact ⟨p.2, rfl⟩
  have wc := fun so => sights_comp2 (C := C) (so := so) (s0 := [some (.cell c), none]) h.len rfl
  have hd : dr st (.cell c) = some (.ins C.Watch [(Str.ofString "table", .cell t)]) := by rw [dr_cl, hl.w]; rfl
  have hc := hl.t
  have ev : Ev (k_Watch_sights_2 C [.cell c] st) fun p => p = (.cell st.length, st ++ [.lst (sDs (sortS (tb.map (·.2))))]) := by
    refine ev_def rfl ?_
    have hset := set_set_same (y := .lck (.dic (fDic tb))) hc
    have hlen : (st.set t (.lck (.dic (fDic tb)))).length = st.length := List.length_set
    simp only [fDic] at wc hc hset hlen
    simp [-List.map_map, -List.map_reverse, -mSeq, -mIf, -mFor, -mTAnd, -mTOr, -dr, b_Watch_sights_2, hd, look_tab, hc, wc, hs, hh, hset]
  obtain ⟨p, e, rfl⟩ := ev
  exact e
theorem p_wbool {d : D} (hd : WX C st d tb) (hl : tb.length ≤ 1000) : f_Watch_bool C [d] st = .ok (.bl (decide ((0 : Int) < (tb.length : Nat))), st) := by
  obtain ⟨t, ht, e⟩ := hd
  refine cut_pure0 ?_ rfl
  have ev : Ev (k_Watch_bool C [d] st) fun p => p = (.bl (decide ((0 : Int) < (tb.length : Nat))), st) := by
    refine ev_def rfl ?_
    simp [-List.map_map, -mSeq, -mIf, -mFor, -mTAnd, -mTOr, -dr, b_Watch_bool, e, look_tab, ht.dr, d1_one]
  obtain ⟨p, e, rfl⟩ := ev
  exact e
theorem p_wcont {d : D} (hd : WX C st d tb) : f_Watch_contains C [d, .str w] st = .ok (.bl (decide (w ∈ tb.map (·.1))), st) := by
  obtain ⟨t, ht, e⟩ := hd
  refine cut_pure0 ?_ rfl
  have hi := in_f (tb := tb) (w := w)
  have hdr := ht.dr
  have ev : Ev (k_Watch_contains C [d, .str w] st) fun p => p = (.bl (decide (w ∈ tb.map (·.1))), st) := by
    refine ev_def rfl ?_
    simp [-dIn, -List.mem_map, -List.map_map, -mSeq, -mIf, -mFor, -mTAnd, -mTOr, -dr, b_Watch_contains, e, look_tab, hdr, hi]
  obtain ⟨p, e, rfl⟩ := ev
  exact e
theorem p_wcontX {d x : D} (h : Table tb) (hd : WX C st d tb) (he : Elt st x) (hb : isNm x = false) : f_Watch_contains C [d, x] st = .ok (.bl false, st) := by
  by_cases hx : ∃ w, x = .str w
  · obtain ⟨w, rfl⟩ := hx
    have := p_wcont (w := w) hd
    rw [decide_eq_false (fun hk => by
      obtain ⟨p, hp, e⟩ := List.mem_map.mp hk
      have := h.okw p hp
      rw [e] at this
      have hb : okNm w = false := hb
      rw [hb] at this
      cases this)] at this
    exact this
  · obtain ⟨t, ht, e⟩ := hd
    refine cut_pure0 ?_ rfl
    obtain ⟨e1, h1, h2⟩ : ∃ e1, dr st x = some e1 ∧ dIsi e1 (.ty "str") = .ok (.bl false) := by
      rcases elt_dr he with z | ⟨y, hy, hk⟩
      · exact ⟨x, dr_plain z, by cases x <;> first | rfl | (exact absurd ⟨_, rfl⟩ hx) | (cases z; done)⟩
      · exact ⟨y, hy, by cases y <;> first | rfl | (cases hk; done)⟩
    have ev : Ev (k_Watch_contains C [d, x] st) fun p => p = (.bl false, st) := by
      refine ev_def rfl ?_
      simp [-dIsi, -List.map_map, -mSeq, -mIf, -mFor, -mTAnd, -mTOr, -dr, b_Watch_contains, h1, h2]
    obtain ⟨p, e, rfl⟩ := ev
    exact e
theorem exact_loop2 {f : Fn} {k : Nat} {xs : List D} (hk : st[k]? = some (.lst xs)) (hf : ∀ x ∈ xs, ∀ st, f [x, x] st = .ok (.bl true, st)) : ∃ x2, mLoop (stName 2) (l_law_exact_1 C f) (rangeD 0 xs.length) ⟨[some (.cell k), some (.lst xs), none], st⟩ = .ok (.nx ⟨[some (.cell k), some (.lst xs), x2], st⟩) := by
  obtain ⟨r', h1, x2, rfl⟩ := loop_inv (st := stName 2) (b := l_law_exact_1 C f) (fun _ r => ∃ x2, r = ⟨[some (.cell k), some (.lst xs), x2], st⟩) (xs := rangeD 0 xs.length) (r := ⟨[some (.cell k), some (.lst xs), none], st⟩) ⟨none, rfl⟩ (fun i x r hx hr => by
    obtain ⟨x2, rfl⟩ := hr
    obtain ⟨rfl, hi⟩ := rangeD_mem hx
    have e : xs[i]? = some xs[i] := List.getElem?_eq_getElem hi
    have a := atI_nat e
    have hx := hf xs[i] (List.getElem_mem hi)
    refine ⟨⟨[some (.cell k), some (.lst xs), some (.int (0 + (i : Int)))], st⟩, ⟨[some (.cell k), some (.lst xs), some (.int (0 + (i : Int)))], st⟩, rfl, .inl ?_, _, rfl⟩
    rw [Int.zero_add]
    simp [l_law_exact_1, a, hx, hk])
  exact ⟨x2, h1⟩
theorem exact_cell {n k : Nat} {xs : List D} (hk : st[k]? = some (.lst xs)) (h : flatOk (n + 1) (.lst xs) = true) : f_law_exact C (n + 1) [.cell k, .lst xs] st = .ok (.bl true, st) := by
  unfold f_law_exact
  refine cut_pure0 ?_ rfl
  simp only [flatOk, Bool.and_eq_true, decide_eq_true_eq, List.all_eq_true] at h
  obtain ⟨x2, e⟩ := exact_loop2 (C := C) (st := st) (f := f_law_exact C n) (xs := xs) hk (fun x hx st => p_exact (h.2 x hx))
  have l1 : xs.length ≤ 1000000 := by omega
  have l2 : (-1000000 : Int) ≤ (xs.length : Int) := by omega
  have l3 : (xs.length : Int) ≤ 1000000 := by omega
  simp [b_law_exact, l1, l2, l3, eqOk, eqD, scalD, hk]
  rw [e]
  simp
end Lm
set_option maxHeartbeats 1000000
namespace Lm
open PySem L2 Mir
variable {C : Cl} {st : Sto}
theorem nd_le : ∀ (as bs : List Str), as.Nodup → (∀ x ∈ as, x ∈ bs) → as.length ≤ bs.length
  | [], _, _, _ => Nat.zero_le _
  | a :: as, bs, nd, sub => by
    rw [List.nodup_cons] at nd
    have ha := sub a List.mem_cons_self
    have := nd_le as (bs.erase a) nd.2 fun x hx => (List.mem_erase_of_ne (fun e => nd.1 (by rw [← e]; exact hx))).mpr (sub x (List.mem_cons_of_mem _ hx))
    rw [List.length_erase_of_mem ha] at this
    have := List.length_pos_of_mem ha
    rw [List.length_cons]
    omega
theorem IdT.le {tb : List (Str × Str)} {xs : List Str} (h : IdT tb xs) : tb.length ≤ xs.length := by
  have := nd_le (tb.map (·.1)) xs h.t.nd fun x hx => (h.k x).mp hx
  rwa [List.length_map] at this
end Lm
set_option maxHeartbeats 400000
namespace Lm
open PySem L2 Mir
variable {C : Cl} {st : Sto} {tb ub vb : List (Str × Str)}
/-! ## the law's own tables -/
theorem dDict_f : dDict (.dic (fDic tb)) = .ok (.dic (fDic tb)) := by
  simp [dDict]
end Lm
set_option maxHeartbeats 400000
namespace Lm
open PySem L2 Mir
variable {C : Cl} {st : Sto} {tb ub vb : List (Str × Str)}
theorem ix_s {nms : List Str} {k : Nat} {x : Str} (h : nms[k]? = some x) : dIxA (.lst (sDs nms)) (.int (k : Nat)) = .ok (.str x) := by
  have : atI (sDs nms) (k : Nat) = some (.str x) := atI_nat (by rw [List.getElem?_map, h]; rfl)
  simp only [dIxA, dIx, this]
theorem ix_j {row : List Int} {k : Nat} {x : Int} (h : row[k]? = some x) : dIxA (.lst (jDs row)) (.int (k : Nat)) = .ok (.int x) := by
  have : atI (jDs row) (k : Nat) = some (.int x) := atI_nat (by rw [List.getElem?_map, h]; rfl)
  simp only [dIxA, dIx, this]
end Lm
set_option maxHeartbeats 400000
namespace Lm
open PySem L2 Mir
end Lm
set_option maxHeartbeats 1000000
namespace Lm
open PySem L2 Mir
variable {C : Cl} {st S : Sto} {tb ub vb tl tr : List (Str × Str)}
theorem Live.app {J : Sto} {c t : Nat} (h : Live C S c t tb) : Live C (S ++ J) c t tb := ⟨by rw [List.getElem?_append_left (List.getElem?_eq_some_iff.mp h.w).1]; exact h.w, by rw [List.getElem?_append_left (List.getElem?_eq_some_iff.mp h.t).1]; exact h.t⟩
theorem Live.wx {c t : Nat} (h : Live C st c t tb) : WX C st (.cell c) tb := ⟨.cell t, .inr ⟨_, rfl, h.t⟩, by rw [dr_cl, h.w]; rfl⟩
/-- a watch in a cell -/
def WC (C : Cl) (S : Sto) (c : Nat) (T : List (Str × Str)) : Prop := ∃ t, S[c]? = some (.ins C.Watch [(Str.ofString "table", t)]) ∧ TIn S t T
theorem WC.wx {c : Nat} (h : WC C S c tb) : WX C S (.cell c) tb := by
  obtain ⟨t, e, ht⟩ := h
  exact ⟨t, ht, by rw [dr_cl, e]; rfl⟩
theorem WC.app {J : Sto} {c : Nat} (h : WC C S c tb) : WC C (S ++ J) c tb := by
  obtain ⟨t, e, ht⟩ := h
  refine ⟨t, by rw [List.getElem?_append_left (List.getElem?_eq_some_iff.mp e).1]; exact e, ?_⟩
  rcases ht with rfl | ⟨x, rfl, hx⟩
  · exact .inl rfl
  · exact .inr ⟨x, rfl, by rw [List.getElem?_append_left (List.getElem?_eq_some_iff.mp hx).1]; exact hx⟩
theorem WC.set {c c' : Nat} {x : D} (h : WC C S c tb) (hne : c ≠ c') (h' : WC C S c' ub) : WC C (S.set c' x) c tb := by
  obtain ⟨t, e, ht⟩ := h
  obtain ⟨t', e', _⟩ := h'
  refine ⟨t, by rw [List.getElem?_set_ne (Ne.symm hne)]; exact e, ?_⟩
  rcases ht with rfl | ⟨y, rfl, hy⟩
  · exact .inl rfl
  · refine .inr ⟨y, rfl, ?_⟩
    rw [List.getElem?_set_ne]
    · exact hy
    · rintro rfl
      rw [e'] at hy
      cases hy
theorem WC.put {c : Nat} (h : WC C S c tb) : WC C (S.set c (.ins C.Watch [(Str.ofString "table", .dic (fDic ub))])) c ub := by
  obtain ⟨t, e, ht⟩ := h
  exact ⟨_, List.getElem?_set_self (List.getElem?_eq_some_iff.mp e).1, .inl rfl⟩
theorem WC.dr {c : Nat} (h : WC C S c tb) : ∃ t, dr S (.cell c) = some (.ins C.Watch [(Str.ofString "table", t)]) := by
  obtain ⟨t, e, _⟩ := h
  exact ⟨t, by rw [dr_cl, e]; rfl⟩
theorem wx_wch : WX C S (wch C tb) tb := ⟨_, .inl rfl, rfl⟩
end Lm
set_option maxHeartbeats 1000000
namespace Lm
open PySem L2 Mir
variable {C : Cl} {st : Sto} {tb : List (Str × Str)} {c t : Nat} {w : Str}
theorem flag11 {a b : Bool} (h : a = b) : f_law_flag C [.bl a, .bl b] st = .ok (.bl true, st) := by
  subst h
  exact cut_pure0 (by simp [k_law_flag, b_law_flag, eqOk, eqD, scalD]) rfl
abbrev kyT (tb : List (Str × Str)) : List Str := sortS (tb.map (·.1))
abbrev sgT (tb : List (Str × Str)) : List Str := sortS (tb.map (·.2))
theorem kyT_len (h : Table tb) : (kyT tb).length ≤ 100 := Nat.le_trans (sortS_len _) (by rw [List.length_map]; exact h.len)
theorem sgT_len (h : Table tb) : (sgT tb).length ≤ 100 := Nat.le_trans (sortS_len _) (by rw [List.length_map]; exact h.len)
theorem right_turn {so : Sto} {x1 x2 x3 x6 x7 x8 x9 x10 : Option D} (h : Table tb) (hl : Live C so c t tb) :
    l_law_right_3 C ⟨[some (.cell c), x1, x2, x3, some (.lst (sDs (kyT tb))), some (.lst (sDs (sgT tb))), x6, x7, x8, x9, x10], so⟩ = .ok (.nx ⟨[some (.cell c), x1, x2, x3, some (.lst (sDs (kyT tb))), some (.lst (sDs (sgT tb))), x6, x7, some (.cell so.length), some (.cell (so.length + 1)), x10], so ++ [.lst (sDs (kyT tb) ++ [.str (Str.ofString "zz")]), .lst (sDs (sgT tb) ++ [.str (Str.ofString "zz")])]⟩) := by
  have k1 := k_words2 (C := C) h hl
  have k2 := k_sights2 (C := C) (st := so ++ [D.lst (sDs (kyT tb))]) h hl.app
  have lk := kyT_len h
  have ls := sgT_len h
  have f1 : flatOk 5 (.lst (sDs (kyT tb))) = true := flat_str_list (by omega)
  have f2 : flatOk 5 (.lst (sDs (sgT tb))) = true := flat_str_list (by omega)
  have hd : so[c]? = some (.ins C.Watch [(Str.ofString "table", .cell t)]) := hl.w
  have hd2 : (so ++ [D.lst (sDs (kyT tb))])[c]? = some (.ins C.Watch [(Str.ofString "table", .cell t)]) := hl.app.w
  have k1 : k_Watch_words_2 C [.cell c] so = .ok (.cell so.length, so ++ [D.lst (sDs (kyT tb))]) := k1
  have k2 : k_Watch_sights_2 C [.cell c] (so ++ [D.lst (sDs (kyT tb))]) = .ok (.cell (so ++ [D.lst (sDs (kyT tb))]).length, so ++ [D.lst (sDs (kyT tb))] ++ [.lst (sDs (sgT tb))]) := k2
  have el : ∀ x : D, (so ++ [x]).length = so.length + 1 := fun x => by simp
  rw [el] at k2
  generalize hK : sDs (kyT tb) = K at *
  generalize hS : sDs (sgT tb) = S at *
  have lK : K.length < 1000000 := by rw [← hK]; simp; omega
  have lS : S.length < 1000000 := by rw [← hS]; simp; omega
  have ga : ∀ x y : D, (so ++ [x] ++ [y])[so.length]? = some x := fun x y => by simp
  have gb : ∀ x y : D, (so ++ [x] ++ [y])[so.length + 1]? = some y := fun x y => by simp [List.getElem?_append_right]
  have sa : ∀ x y z : D, (so ++ [x] ++ [y]).set so.length z = so ++ [z] ++ [y] := fun x y z => by simp
  have sb : ∀ x y z : D, (so ++ [x] ++ [y]).set (so.length + 1) z = so ++ [x] ++ [z] := fun x y z => by simp [List.set_append]
  have e1 := exact_cell (C := C) (n := 4) (st := so ++ [D.lst K] ++ [D.lst S]) (ga _ _) f1
  have e2 := exact_cell (C := C) (n := 4) (st := so ++ [D.lst K] ++ [D.lst S]) (gb _ _) f2
  have e1 : f_law_exact C 5 [.cell so.length, .lst K] (so ++ [D.lst K] ++ [D.lst S]) = .ok (.bl true, so ++ [D.lst K] ++ [D.lst S]) := e1
  have e2 : f_law_exact C 5 [.cell (so.length + 1), .lst S] (so ++ [D.lst K] ++ [D.lst S]) = .ok (.bl true, so ++ [D.lst K] ++ [D.lst S]) := e2
  have ap : ∀ x y : D, so ++ [x, y] = so ++ [x] ++ [y] := fun x y => by simp
  rw [ap]
  simp [-List.append_assoc, -dr, l_law_right_3, hd, hd2, k1, k2, e1, e2, ga, gb, sa, sb, lK, lS]
theorem right_turns {x1 x2 x3 x6 x7 x8 x9 x10 : Option D} (h : Table tb) (hl : Live C st c t tb) : ∃ J y6 y8 y9, mLoop (stName 6) (l_law_right_3 C) (rangeD 0 2) ⟨[some (.cell c), x1, x2, x3, some (.lst (sDs (kyT tb))), some (.lst (sDs (sgT tb))), x6, x7, x8, x9, x10], st⟩ = .ok (.nx ⟨[some (.cell c), x1, x2, x3, some (.lst (sDs (kyT tb))), some (.lst (sDs (sgT tb))), y6, x7, y8, y9, x10], st ++ J⟩) := by
  obtain ⟨r', h1, J, y6, y8, y9, rfl⟩ := loop_inv (st := stName 6) (b := l_law_right_3 C) (fun _ r => ∃ J y6 y8 y9, r = ⟨[some (.cell c), x1, x2, x3, some (.lst (sDs (kyT tb))), some (.lst (sDs (sgT tb))), y6, x7, y8, y9, x10], st ++ J⟩) (xs := rangeD 0 2) (r := ⟨[some (.cell c), x1, x2, x3, some (.lst (sDs (kyT tb))), some (.lst (sDs (sgT tb))), x6, x7, x8, x9, x10], st⟩) ⟨[], x6, x8, x9, by rw [List.append_nil]⟩ (fun i x r hx hr => by
    obtain ⟨J, y6, y8, y9, rfl⟩ := hr
    exact ⟨_, _, rfl, .inl (right_turn (C := C) h hl.app), _, _, _, _, by rw [List.append_assoc]⟩)
  exact ⟨J, y6, y8, y9, h1⟩
theorem right_name {so : Sto} {w : Str} {T : Nat} {x2 x3 x5 x6 x8 x9 x10 : Option D} (h : Table tb) (hl : Live C so c t tb) (ht : so[T]? = some (.dic (fDic tb))) (hw : okNm w = true) :
    l_law_right_4 C ⟨[some (.cell c), some (.cell T), x2, x3, some (.lst (sDs (kyT tb))), x5, x6, some (.str w), x8, x9, x10], so⟩ = .ok (.nx ⟨[some (.cell c), some (.cell T), x2, x3, some (.lst (sDs (kyT tb))), x5, x6, some (.str w), x8, x9, x10], so⟩) := by
  have wx : WX C so (.cell c) tb := hl.wx
  have hd : so[c]? = some (.ins C.Watch [(Str.ofString "table", .cell t)]) := hl.w
  have hT : so[T]? = some (.dic (fDic tb)) := ht
  have g1 := p_getitemX (C := C) wx hw
  have g2 := p_wcont (C := C) (w := w) wx
  have hv := val_sgt (tb := tb) (w := w)
  have fx : flatOk 5 (sgt tb w) = true := by unfold sgt; split <;> rfl
  have e1 := p_exact (C := C) (st := so) fx
  have hi := in_sDs (w := w) (l := kyT tb)
  rw [show decide (w ∈ kyT tb) = decide (w ∈ tb.map (·.1)) from decide_eq_decide.mpr sortS_mem] at hi
  have hf := flag11 (C := C) (st := so) (rfl : decide (w ∈ tb.map (·.1)) = decide (w ∈ tb.map (·.1)))
  simp only [fDic] at hv hT
  simp [-List.map_map, -List.mem_map, -dr, l_law_right_4, hd, hT, g1, g2, hv, e1, hi, hf]
theorem right_names {T : Nat} {x2 x3 x5 x6 x8 x9 x10 : Option D} (h : Table tb) (hl : Live C st c t tb) (ht : st[T]? = some (.dic (fDic tb))) : ∀ (nms : List Str) (x7 : Option D), (∀ w ∈ nms, okNm w = true) →
    ∃ y7, mLoop (stName 7) (l_law_right_4 C) (sDs nms) ⟨[some (.cell c), some (.cell T), x2, x3, some (.lst (sDs (kyT tb))), x5, x6, x7, x8, x9, x10], st⟩ = .ok (.nx ⟨[some (.cell c), some (.cell T), x2, x3, some (.lst (sDs (kyT tb))), x5, x6, y7, x8, x9, x10], st⟩)
  | [], x7, _ => ⟨x7, rfl⟩
  | w :: ws, x7, hk => by
    obtain ⟨y7, e⟩ := right_names h hl ht ws (some (.str w)) fun x hx => hk x (List.mem_cons_of_mem _ hx)
    refine ⟨y7, ?_⟩
    have e1 := right_name (C := C) (x2 := x2) (x3 := x3) (x5 := x5) (x6 := x6) (x8 := x8) (x9 := x9) (x10 := x10) h hl ht (hk w List.mem_cons_self)
    rw [sDs, List.map_cons]
    unfold mLoop
    show Out.bnd (l_law_right_4 C _) _ = _
    rw [show (RE.put (⟨[some (.cell c), some (.cell T), x2, x3, some (.lst (sDs (kyT tb))), x5, x6, x7, x8, x9, x10], st⟩ : RE) 7 (some (.str w))) = ⟨[some (.cell c), some (.cell T), x2, x3, some (.lst (sDs (kyT tb))), x5, x6, some (.str w), x8, x9, x10], st⟩ from rfl, e1]
    exact e
theorem right_sights {T : Nat} {s0 : List (Option D)} (h : Table tb) (ht : st[T]? = some (.dic (fDic tb))) (h1 : s0[1]? = some (some (.cell T))) (hl : s0.length = 11) : mCompL s0 (stName 10) (l_law_right_1 C) (l_law_right_2 C) (sDs (kyT tb)) st [] = .ok (sDs ((kyT tb).map (look tb)), st) := by
  have e : sDs ((kyT tb).map (look tb)) = (kyT tb).map fun w => .str (look tb w) := by simp only [sDs, List.map_map]; rfl
  rw [e]
  refine comp_each (fun w => D.str w) (fun w => .str (look tb w)) (kyT tb) (fun w hw => ?_) (by have := kyT_len h; omega)
  obtain ⟨a0, a1, a2, a3, a4, a5, a6, a7, a8, a9, a10, rfl⟩ : ∃ a0 a1 a2 a3 a4 a5 a6 a7 a8 a9 a10, s0 = [a0, a1, a2, a3, a4, a5, a6, a7, a8, a9, a10] := by
    match s0, hl with
    | [a0, a1, a2, a3, a4, a5, a6, a7, a8, a9, a10], _ => exact ⟨_, _, _, _, _, _, _, _, _, _, _, rfl⟩
  simp only [List.getElem?_cons_succ, List.getElem?_cons_zero, Option.some.injEq] at h1
  subst h1
  have hT : st[T]? = some (.dic (fDic tb)) := ht
  have g2 : dIxA (.dic (fDic tb)) (.str w) = .ok (.str (look tb w)) := by
    have := fDic_look (sortS_mem.mp hw)
    simp only [fDic] at this
    simp [fDic, dIxA, getA, this]
  refine ⟨⟨[a0, some (.cell T), a2, a3, a4, a5, a6, a7, a8, a9, some (.str w)], st⟩, ⟨[a0, some (.cell T), a2, a3, a4, a5, a6, a7, a8, a9, some (.str w)], st⟩, rfl, rfl, rfl, ⟨[a0, some (.cell T), a2, a3, a4, a5, a6, a7, a8, a9, some (.str w)], st⟩, ?_, rfl⟩
  simp only [fDic] at hT g2
  simp [-List.map_map, -dr, -dIxA, l_law_right_2, hT, g2]
end Lm
set_option maxHeartbeats 1000000
namespace Lm
open PySem L2 Mir
variable {C : Cl} {st : Sto} {tb : List (Str × Str)} {c t : Nat} {w : Str}
theorem p_right {t2 : Nat} {nms : List Str} {th : D} (hl : Live C st c t tb) (h : Table tb) (ht : st[t2]? = some (.dic (fDic tb))) (hk : ∀ w ∈ nms, okNm w = true) (he : Elt st th) (hb : isNm th = false) :
    f_law_right C [.cell c, .cell t2, .lst (sDs nms), th] st = .ok (.bl true, st) := by
  have h1 := dSort_s (xs := tb.map (·.1)) (fun x hx => by obtain ⟨p, hp, rfl⟩ := List.mem_map.mp hx; exact h.okw p hp) h.nd
  have wx : WX C st (.cell c) tb := hl.wx
  have hlen := h.len
  obtain ⟨J, y6, y8, y9, rt⟩ := right_turns (C := C) (st := st) (x1 := some (.cell t2)) (x2 := some (.lst (sDs nms))) (x3 := some th) (x6 := none) (x7 := none) (x8 := none) (x9 := none) (x10 := none) h hl
  have hl' : Live C (st ++ J) c t tb := hl.app
  have ht' : (st ++ J)[t2]? = some (.dic (fDic tb)) := by rw [List.getElem?_append_left (List.getElem?_eq_some_iff.mp ht).1]; exact ht
  obtain ⟨y7, rn⟩ := right_names (C := C) (st := st ++ J) (x2 := some (.lst (sDs nms))) (x3 := some th) (x5 := some (.lst (sDs (sgT tb)))) (x6 := y6) (x8 := y8) (x9 := y9) (x10 := none) h hl' ht' nms none hk
  have rs := right_sights (C := C) (st := st) (s0 := [some (.cell c), some (.cell t2), some (.lst (sDs nms)), some th, some (.lst (sDs (kyT tb))), none, none, none, none, none, none]) h ht rfl rfl
  have he' : Elt (st ++ J) th := he.mono Ls.app
  have wx' : WX C (st ++ J) (.cell c) tb := hl'.wx
  have b1 := p_wlen (C := C) wx' (by omega)
  have b2 := p_wbool (C := C) wx' (by omega)
  have b3 := p_wcontX (C := C) h wx' he' hb
  have kl : (kyT tb).length = tb.length := by
    have e := (nd_perm (sortS_nd (tb.map (·.1))) h.nd fun x => sortS_mem).length_eq
    simpa using e
  have sl : (sDs (kyT tb)).length = tb.length := by rw [← kl]; simp
  have i1 : flatOk 5 (.int (tb.length : Nat)) = true := rfl
  have b4 := p_exact (C := C) (st := st ++ J) i1
  have b5 := flag11 (C := C) (st := st ++ J) (rfl : decide (0 < tb.length) = decide (0 < tb.length))
  have b6 := flag11 (C := C) (st := st ++ J) (rfl : false = false)
  have kd := keysD_s ((kyT tb).map (look tb))
  have hs : (KS.sortK (KS.dedupK (((kyT tb).map (look tb)).map fun x => (.inr x : Key)))).map ofKey = sDs (sgT tb) := sortS_of fun k => by
    rw [List.mem_map, List.mem_map]
    have key : ∀ x, x ∈ (kyT tb).map (look tb) ↔ x ∈ tb.map (·.2) := fun x => by
      rw [vals_mem h, List.mem_map]
      exact ⟨fun ⟨w, a, b⟩ => ⟨w, sortS_mem.mp a, b⟩, fun ⟨w, a, b⟩ => ⟨w, sortS_mem.mpr a, b⟩⟩
    exact ⟨fun ⟨x, a, b⟩ => ⟨x, (key x).mp a, b⟩, fun ⟨x, a, b⟩ => ⟨x, (key x).mpr a, b⟩⟩
  have hh : KS.hom (((kyT tb).map (look tb)).map fun x => (.inr x : Key)) = true := allS_inr fun k hk => by
    obtain ⟨x, _, rfl⟩ := List.mem_map.mp hk
    exact ⟨x, rfl⟩
  have hw := hl.w
  have hw' := hl'.w
  refine cut_pure (j := J) ?_ rfl
  suffices ev : Ev (k_law_right C [.cell c, .cell t2, .lst (sDs nms), th] st) fun p => p = (.bl true, st ++ J) by
    obtain ⟨p, e, rfl⟩ := ev
    exact e
  refine ev_def rfl ?_
  have dl := dListD_f tb
  have lV : ((kyT tb).map (look tb)).length < 4000 := by rw [List.length_map]; omega
  have lT : (tb.length : Int) ≤ 1000000 := by omega
  generalize sDs (kyT tb) = K at *
  generalize sDs (sgT tb) = S at *
  generalize (kyT tb).map (look tb) = V at *
  generalize sDs nms = N at *
  simp only [fDic] at ht ht' dl
  simp [-dSort, -dListD, -List.map_map, -mSeq, -mIf, -mFor, -mTAnd, -mTOr, -dr, b_law_right, ht, dl, h1]
  rw [rs]
  simp [-dSort, -dListD, -List.map_map, -mSeq, -mIf, -mFor, -mTAnd, -mTOr, -dr, kd, hs, hh]
  rw [rt]
  simp [-dSort, -dListD, -List.map_map, -mSeq, -mIf, -mFor, -mTAnd, -mTOr, -dr, hw', b1, b2, b3, b4, b5, b6, sl, lV, lT]
  rw [rn]
  simp [-dSort, -dListD, -List.map_map, -mSeq, -mIf, -mFor, -mTAnd, -mTOr, -dr, hw', b1, b2, b3, b4, b5, b6, sl, lV, lT]
end Lm
set_option maxHeartbeats 1000000
namespace Lm
open PySem L2 Mir
variable {C : Cl} {st S : Sto} {tb : List (Str × Str)} {c t : Nat} {w : Str} {nms : List Str}
/-! ## == of a watch -/
theorem eq2_no {x d e : D} {T : String} (h1 : dr st d = some e) (h2 : tyName e = some T) : f_Watch_eq_2 C [x, d] st = .ok (.bl false, st) := by
  refine cut_pure0 ?_ rfl
  have hne : ∀ A fs, e ≠ .ins A fs := fun A fs z => by subst z; cases h2
  have key : mIsOX C.Watch [] (mVar 1) ⟨[some x, some d], st⟩ = .ok (.bl false, ⟨[some x, some d], st⟩) := by
    simp only [mIsOX, mVar, List.getElem?_cons_succ, List.getElem?_cons_zero, bnd_ok, h1, h2]
  simp [-dr, -mIsOX, -mVar, k_Watch_eq_2, fnK, b_Watch_eq_2, startR, key]
theorem eq2_yes {x y : D} (hx : WX C st x tb) (hy : WX C st y tb) (h : Table tb) : f_Watch_eq_2 C [x, y] st = .ok (.bl true, st) := by
  obtain ⟨t, ht, e⟩ := hx
  obtain ⟨u, hu, f⟩ := hy
  have ds := dicSame_refl h.nd
  have ht := ht.dr
  have hu := hu.dr
  refine cut_pure0 ?_ rfl
  suffices ev : Ev (k_Watch_eq_2 C [x, y] st) fun p => p = (.bl true, st) by
    obtain ⟨p, e, rfl⟩ := ev
    exact e
  refine ev_def rfl ?_
  simp only [fDic] at ht hu ds
  simp [-List.map_map, -dicSame, -mSeq, -mIf, -mFor, -mTAnd, -mTOr, -dr, b_Watch_eq_2, e, f, look_tab, ht, hu, ds]
theorem k_copyX {x : D} (hx : WX C st x tb) (h : Table tb) : k_Watch_copy_2 C [x] st = .ok (.cell st.length, nwS C st tb) := by
  obtain ⟨t, ht, e⟩ := hx
  have ei := init2_run (C := C) (st := st) (x := t) h ht
  have ev : Ev (k_Watch_copy_2 C [x] st) fun p => p = (.cell st.length, nwS C st tb) := by
    refine ev_def rfl ?_
    simp only [fDic] at ei
    simp [-List.map_map, -mSeq, -mIf, -mFor, -mTAnd, -mTOr, -dr, b_Watch_copy_2, e, look_tab, ei]
  obtain ⟨p, e2, rfl⟩ := ev
  exact e2
theorem init0_run : mkF C.Watch (k_Watch_init_2 C) [.non] st = .ok (.cell st.length, st ++ [.ins C.Watch [(Str.ofString "table", .cell (st.length + 1))], .dic []]) := by
  have hn : dIsNot .non .non = .ok (.bl false) := rfl
  have ev : Ev (mkF C.Watch (k_Watch_init_2 C) [.non] st) fun p => p = (.cell st.length, st ++ [.ins C.Watch [(Str.ofString "table", .cell (st.length + 1))], .dic []]) := by
    unfold mkF
    rw [ev_bnd]
    refine ev_def rfl ?_
    simp [-mSeq, -mIf, -mFor, -mTAnd, -mTOr, -dr, b_Watch_init_2, hn]
  obtain ⟨p, e, rfl⟩ := ev
  exact e
/-! ## the law's own table -/
theorem valD_put {κ : Type} [DecidableEq κ] (ks : List (κ × D)) (k : κ) (v : D) : valD (putD ks k v) k = some v := by
  unfold putD
  by_cases h : hasD ks k = true
  · rw [if_pos h]
    unfold hasD at h
    unfold valD
    induction ks with
    | nil => cases h
    | cons p ks ih =>
      rw [List.map_cons]
      by_cases e : p.1 = k
      · rw [if_pos e, List.find?_cons_of_pos (by simpa using e)]; rfl
      · rw [if_neg e, List.find?_cons_of_neg (by simpa using e)]
        refine ih ?_
        rw [List.any_cons, decide_eq_false e, Bool.false_or] at h
        exact h
  · rw [if_neg h]
    unfold valD
    have : (ks.find? fun kv => decide (kv.1 = k)) = none := by
      rw [List.find?_eq_none]
      intro x hx hk
      exact h (List.any_eq_true.mpr ⟨x, hx, hk⟩)
    rw [List.find?_append, this]
    simp
theorem drop_put {κ : Type} [DecidableEq κ] (ks : List (κ × D)) (k : κ) (v : D) : dropD (putD ks k v) k = dropD ks k := by
  unfold putD dropD
  by_cases h : hasD ks k = true
  · rw [if_pos h, List.filter_map]
    have e1 : (ks.filter ((fun kv => decide (kv.1 ≠ k)) ∘ fun kv => if kv.1 = k then (kv.1, v) else kv)) = ks.filter fun kv => decide (kv.1 ≠ k) := List.filter_congr fun p _ => by
      by_cases e : p.1 = k <;> simp [e]
    rw [e1]
    refine (List.map_congr_left fun p hp => ?_).trans (List.map_id _)
    have := (List.mem_filter.mp hp).2
    rw [if_neg (by simpa using this)]
    rfl
  · rw [if_neg h, List.filter_append]
    simp
theorem ix_sg {r : Int} (h8 : nms.length = 8) (ok : ∀ x ∈ nms, okNm x = true) (h0 : 0 ≤ r) (h1 : r < 11) : ∃ o : Option Str, (∀ s, o = some s → okNm s = true) ∧ dIxA (.lst (sDs nms ++ [.non, .non, .non])) (.int r) = .ok (sgD o) := by
  obtain ⟨n, rfl⟩ : ∃ n : Nat, r = (n : Int) := ⟨r.toNat, by omega⟩
  by_cases hn : n < 8
  · obtain ⟨s, hs⟩ : ∃ s, nms[n]? = some s := ⟨_, List.getElem?_eq_getElem (by omega)⟩
    refine ⟨some s, fun x e => by cases e; exact ok _ (List.mem_of_getElem? hs), ?_⟩
    have : atI (sDs nms ++ [.non, .non, .non]) (n : Nat) = some (.str s) := atI_nat (by rw [List.getElem?_append_left (by rw [List.length_map]; omega), List.getElem?_map, hs]; rfl)
    simp only [dIxA, dIx, this]
    rfl
  · refine ⟨none, (fun _ e => by cases e), ?_⟩
    have : atI (sDs nms ++ [.non, .non, .non]) (n : Nat) = some .non := atI_nat (by
      rw [List.getElem?_append_right (by rw [List.length_map]; omega), List.length_map, h8]
      have : n - 8 = 0 ∨ n - 8 = 1 ∨ n - 8 = 2 := by omega
      rcases this with e | e | e <;> rw [e] <;> rfl)
    simp only [dIxA, dIx, this]
    rfl
/-! ## the two tables side by side -/
theorem setW_keys {o : Option Str} {x : Str} (h : x ∈ (setW tb w o).map (·.1)) : x ∈ tb.map (·.1) ∨ x = w := by
  cases o with
  | some s => exact putT_keys.mp h
  | none => exact .inl (dropT_keys.mp h).1
theorem setW_table {o : Option Str} (h : Table tb) (hw : okNm w = true) (hs : ∀ s, o = some s → okNm s = true) (hl : tb.length < 100) : Table (setW tb w o) := by
  cases o with
  | some s => exact putT_table h hw (hs s rfl) hl
  | none => exact dropT_table h
structure KI (C : Cl) (nms : List Str) (S : Sto) (tb : List (Str × Str)) : Prop where
  live : Live C S 0 1 tb
  tab : S[2]? = some (.dic (fDic tb))
  t : Table tb
  k : ∀ w ∈ tb.map (·.1), w ∈ nms
theorem KI.lt (h : KI C nms S tb) : 2 < S.length := (List.getElem?_eq_some_iff.mp h.tab).1
theorem KI.len (h : KI C nms S tb) : tb.length ≤ nms.length := by
  have := nodup_sub_len h.t.nd h.k
  rwa [List.length_map] at this
theorem KI.app {J : Sto} (h : KI C nms S tb) : KI C nms (S ++ J) tb := ⟨h.live.app, by rw [List.getElem?_append_left h.lt]; exact h.tab, h.t, h.k⟩
theorem KI.upd {o : Option Str} (h : KI C nms S tb) (hw : okNm w = true) (hm : w ∈ nms) (hs : ∀ s, o = some s → okNm s = true) (hl : nms.length < 100) : KI C nms ((S.set 1 (.dic (fDic (setW tb w o)))).set 2 (.dic (fDic (setW tb w o)))) (setW tb w o) where
  live := ⟨by rw [List.getElem?_set_ne (by omega), List.getElem?_set_ne (by omega)]; exact h.live.w, by rw [List.getElem?_set_ne (by omega), List.getElem?_set_self (by have := h.lt; omega)]⟩
  tab := by rw [List.getElem?_set_self (by rw [List.length_set]; exact h.lt)]
  t := setW_table h.t hw hs (by have := h.len; omega)
  k := fun x hx => (setW_keys hx).elim (h.k x) fun e => e ▸ hm
theorem KI.far {i : Nat} {x : D} (h : KI C nms S tb) (hi : 2 < i) : KI C nms (S.set i x) tb := ⟨⟨by rw [List.getElem?_set_ne (by omega)]; exact h.live.w, by rw [List.getElem?_set_ne (by omega)]; exact h.live.t⟩, by rw [List.getElem?_set_ne (by omega)]; exact h.tab, h.t, h.k⟩
theorem Ls.setD {i : Nat} {ks : List (Key × D)} : Ls st (st.set i (.dic ks)) := fun c ⟨x, h, k⟩ => by
  by_cases e : i = c
  · subst e
    exact ⟨.dic ks, List.getElem?_set_self (List.getElem?_eq_some_iff.mp h).1, rfl⟩
  · exact ⟨x, by rw [List.getElem?_set_ne e]; exact h, k⟩
end Lm
set_option maxHeartbeats 1000000
namespace Lm
open PySem L2 Mir
variable {C : Cl} {st S : Sto} {tb : List (Str × Str)} {c t : Nat} {w : Str} {nms : List Str}
theorem Thg.elt {d : D} (h : Thg st d) : Elt st d := thing_elt h
/-- what a turn comes to -/
def Turn (C : Cl) (nms : List Str) (ns : List Int) (k : Nat) (f : Fl) : Prop := ∃ S' T z5 z6 z7 z8 z9 z10, KI C nms S' T ∧ f = .nx ⟨[some (.frl (ns.map D.int)), some (.lst (sDs nms)), some (.cell 0), some (.cell 2), some (.int (k : Nat)), z5, z6, z7, z8, z9, z10], S'⟩
theorem turnk_ok {ns : List Int} {k : Nat} {S' : Sto} {z5 z6 z7 z8 z9 z10 : Option D} (h : KI C nms S' tb) : Turn C nms ns k (.nx ⟨[some (.frl (ns.map D.int)), some (.lst (sDs nms)), some (.cell 0), some (.cell 2), some (.int (k : Nat)), z5, z6, z7, z8, z9, z10], S'⟩) := ⟨_, _, _, _, _, _, _, _, h, rfl⟩
theorem KI.right {th : D} (h : KI C nms S tb) (ok : ∀ x ∈ nms, okNm x = true) (he : Thg S th) : f_law_right C [.cell 0, .cell 2, .lst (sDs nms), th] S = .ok (.bl true, S) := p_right h.live h.t h.tab ok he.elt (thing_nm he)
theorem Thg.app {d : D} {J : Sto} (h : Thg st d) : Thg (st ++ J) d := h.mono Ls.app
theorem k11_step {ns : List Int} {k : Nat} (hki : KI C nms S tb) (h8 : nms.length = 8) (ok : ∀ x ∈ nms, okNm x = true) (y5 y6 y7 y8 y9 y10 : Option D) :
    Ev (l_law_k11_1 C ⟨[some (.frl (ns.map D.int)), some (.lst (sDs nms)), some (.cell 0), some (.cell 2), some (.int (k : Nat)), y5, y6, y7, y8, y9, y10], S⟩) (Turn C nms ns k) := by
  obtain ⟨c, ec⟩ := p_cell (C := C) ns k
  obtain ⟨row, hf, er⟩ := p_row (C := C) c [7, 8, 11, 18, 17] (fun s hs => by
    simp only [List.mem_cons, List.not_mem_nil, or_false] at hs; rcases hs with rfl | rfl | rfl | rfl | rfl <;> omega) (by simp)
  have er : ∀ st, f_law_row C [.int c, .lst [.int 7, .int 8, .int 11, .int 18, .int 17]] st = .ok (.lst (jDs row), st) := er
  have hrl : row.length = 5 := hf.1
  obtain ⟨r0, e0⟩ : ∃ x, row[0]? = some x := ⟨_, List.getElem?_eq_getElem (by omega)⟩
  obtain ⟨r1, e1⟩ : ∃ x, row[1]? = some x := ⟨_, List.getElem?_eq_getElem (by omega)⟩
  obtain ⟨r2, e2⟩ : ∃ x, row[2]? = some x := ⟨_, List.getElem?_eq_getElem (by omega)⟩
  obtain ⟨r3, e3⟩ : ∃ x, row[3]? = some x := ⟨_, List.getElem?_eq_getElem (by omega)⟩
  obtain ⟨r4, e4⟩ : ∃ x, row[4]? = some x := ⟨_, List.getElem?_eq_getElem (by omega)⟩
  have b0 := hf.2 0 r0 7 e0 rfl
  have b1 := hf.2 1 r1 8 e1 rfl
  have b2 := hf.2 2 r2 11 e2 rfl
  have b3 := hf.2 3 r3 18 e3 rfl
  have b4 := hf.2 4 r4 17 e4 rfl
  have i0 : dIxA (.lst (jDs row)) (.int 0) = .ok (.int r0) := ix_j (k := 0) e0
  have i1 : dIxA (.lst (jDs row)) (.int 1) = .ok (.int r1) := ix_j (k := 1) e1
  have i2 : dIxA (.lst (jDs row)) (.int 2) = .ok (.int r2) := ix_j (k := 2) e2
  have i3 : dIxA (.lst (jDs row)) (.int 3) = .ok (.int r3) := ix_j (k := 3) e3
  have i4 : dIxA (.lst (jDs row)) (.int 4) = .ok (.int r4) := ix_j (k := 4) e4
  obtain ⟨n1, rfl⟩ : ∃ n : Nat, r1 = (n : Int) := ⟨r1.toNat, by omega⟩
  obtain ⟨w, hw⟩ : ∃ w, nms[n1]? = some w := ⟨_, List.getElem?_eq_getElem (by omega)⟩
  have iw := ix_s hw
  have okw := ok w (List.mem_of_getElem? hw)
  have hmw := List.mem_of_getElem? hw
  obtain ⟨o, hso, io⟩ := ix_sg (r := r2) h8 ok b2.1 b2.2
  have ad := dAdd_l (a := sDs nms) (b := [.non, .non, .non]) (by simp; omega)
  obtain ⟨d, J, hd, _, et⟩ := p_thing5 (C := C) (st := S) r3 b3.1
  have hki1 : KI C nms (S ++ J) tb := hki.app
  generalize S ++ J = S1 at *
  have hl := hki.len
  have l1 := hki1.live.w
  have alw1 : dIx (.lst (jDs row)) = dIx (.lst (jDs row)) := rfl
  generalize hR : jDs row = R at *
  generalize hN : sDs nms = N at *
  have md : ∀ (x : Int), x = x := fun _ => rfl
  by_cases c0 : r0 < 4
  · have eset := set_ok (o := o) hki1.live okw hso (by omega)
    obtain ⟨S2, hS2⟩ : ∃ S2, S2 = S1.set 1 (.dic (fDic (setW tb w o))) := ⟨_, rfl⟩
    have g2 : S2[2]? = some (.dic (fDic tb)) := by rw [hS2, List.getElem?_set_ne (by omega)]; exact hki1.tab
    have lt2 : 2 < S2.length := (List.getElem?_eq_some_iff.mp g2).1
    have hS3 := hki1.upd (o := o) okw hmw hso (by omega)
    rw [← hS2] at eset hS3
    have hd3 : Thg (S2.set 2 (.dic (fDic (setW tb w o)))) d := by rw [hS2]; exact (hd.mono Ls.setD).mono Ls.setD
    have rt := hS3.right ok hd3
    rw [hN] at rt
    have ln : (fDic tb).length < 1000000 := by rw [List.length_map]; omega
    have e1 := eq_set (so := S2)
    have q3 : dLt (.int r0) (.int 4) = .ok (.bl true) := by simp [c0]
    cases o with
    | some s =>
      have hp := put_T (tb := tb) (w := w) (s := s)
      have hn : dIs (.str s) .non = .ok (.bl false) := rfl
      have pa : putA (.dic (fDic tb)) (.str w) (.str s) = .ok (.dic (fDic (setW tb w (some s)))) := by
        simp only [putA, keyD, if_pos ln, hp]; rfl
      generalize setW tb w (some s) = T at *
      simp only [sgD, fDic] at *
      simp [-dIxA, -dAdd, -dLt, -putA, -List.map_map, -mSeq, -mIf, -mFor, -mTAnd, -mTOr, -dr, l_law_k11_1, ec, er, i0, i1, i2, i3, i4, iw, ad, io, et, q3, eset, e1, g2, pa, hn, rt]
      subst hN
      exact turnk_ok hS3
    | none =>
      have hn : dIs .non .non = .ok (.bl true) := rfl
      have pa : putA (.dic (fDic tb)) (.str w) .non = .ok (.dic (putD (fDic tb) (.inr w) .non)) := by
        simp only [putA, keyD, if_pos ln]
      have v1 := valD_put (fDic tb) (.inr w) .non
      have v2 : dropD (putD (fDic tb) (.inr w) .non) (.inr w) = fDic (setW tb w none) := (drop_put _ _ _).trans drop_T
      have pk : fPopK (.dic (putD (fDic tb) (.inr w) .non)) [.str w] = .ok (.non, .dic (fDic (setW tb w none))) := by
        simp only [fPopK, keyD, v1, v2]
      have g3 : (S2.set 2 (.dic (putD (fDic tb) (.inr w) .non)))[2]? = some (.dic (putD (fDic tb) (.inr w) .non)) := List.getElem?_set_self lt2
      have ty : ∀ ks, tyD (.dic ks) = some "dict" := fun _ => rfl
      generalize setW tb w none = T at *
      simp only [sgD] at *
      generalize putD (fDic tb) (.inr w) .non = P at *
      simp only [fDic] at *
      simp [-dIxA, -dAdd, -dLt, -putA, -fPopK, -List.map_map, -mSeq, -mIf, -mFor, -mTAnd, -mTOr, -dr, l_law_k11_1, ec, er, i0, i1, i2, i3, i4, iw, ad, io, et, q3, eset, e1, g2, pa, pk, hn, g3, ty, rt]
      subst hN
      exact turnk_ok hS3
  · have q3 : dLt (.int r0) (.int 4) = .ok (.bl false) := by simp [c0]
    have et4 : ∀ r, 0 ≤ r → ∃ d' J', Thg (S1 ++ J') d' ∧ (1 ≤ r % 18 → d' ≠ .non) ∧ k_law_thing_3 C [.int r] S1 = .ok (d', S1 ++ J') := fun r hr => p_thing5 (C := C) (st := S1) r hr
    by_cases c4 : r0 = 4
    · have q4 : dEqK (.int r0) (.int 4) = .ok (.bl true) := by simp [eqOk, eqD, scalD, c4]
      obtain ⟨d', J', hd', _, et'⟩ := et4 r4 b4.1
      have hki2 : KI C nms (S1 ++ J') tb := hki1.app
      have hd2 : Thg (S1 ++ J') d := hd.app
      have es := set_badw (v := d') hki2.live hd2.elt (thing_nm hd2) (thing_ok hd2)
      have e1 := eq_ref hd2 (S1 ++ J')
      have rt := hki2.right ok hd2
      rw [hN] at rt
      generalize S1 ++ J' = S2 at *
      simp [-dIxA, -dAdd, -dLt, -dEqK, -List.map_map, -mSeq, -mIf, -mFor, -mTAnd, -mTOr, -dr, l_law_k11_1, ec, er, i0, i1, i2, i3, i4, iw, ad, io, et, et', q3, q4, es, e1, rt]
      subst hN
      exact turnk_ok hki2
    · have q4 : dEqK (.int r0) (.int 4) = .ok (.bl false) := by simp [eqOk, eqD, scalD, c4]
      by_cases c5 : r0 = 5
      · have q5 : dEqK (.int r0) (.int 5) = .ok (.bl true) := by simp [eqOk, eqD, scalD, c5]
        obtain ⟨d', J', hd', hnn, et'⟩ := et4 (1 + r4) (by omega)
        have a1 : dAdd (.int 1) (.int r4) = .ok (.int (1 + r4)) := by simp [dAdd]
        have hki2 : KI C nms (S1 ++ J') tb := hki1.app
        have hd2 : Thg (S1 ++ J') d := hd.app
        have es := set_bads (v := d') hki2.live okw hd'.elt (thing_nm hd') (hnn (by omega)) (thing_ok hd')
        have e1 := eq_ref hd' (S1 ++ J')
        have rt := hki2.right ok hd2
        rw [hN] at rt
        generalize S1 ++ J' = S2 at *
        simp [-dIxA, -dAdd, -dLt, -dEqK, -List.map_map, -mSeq, -mIf, -mFor, -mTAnd, -mTOr, -dr, l_law_k11_1, ec, er, i0, i1, i2, i3, i4, iw, ad, io, et, et', a1, q3, q4, q5, es, e1, rt]
        subst hN
        exact turnk_ok hki2
      · have q5 : dEqK (.int r0) (.int 5) = .ok (.bl false) := by simp [eqOk, eqD, scalD, c5]
        have wx := hki1.live.wx
        have l1 := hki1.live.w
        have nct : ¬ Str.ofString "copy" = Str.ofString "table" := by decide
        have ek := k_copyX (C := C) wx hki1.t
        have hki2 : KI C nms (nwS C S1 tb) tb := hki1.app
        have hlv : Live C (nwS C S1 tb) S1.length (S1.length + 2) tb := ⟨by have := get3 S1 (.ins C.Watch [(Str.ofString "table", .cell (S1.length + 2))]) (.dic []) (.dic (fDic tb)) 0; exact this, by have := get3 S1 (.ins C.Watch [(Str.ofString "table", .cell (S1.length + 2))]) (.dic []) (.dic (fDic tb)) 2; exact this⟩
        have es := k_setW (C := C) (o := o) hlv okw hso (by omega)
        have q1 := eq2_yes (C := C) hlv.wx hki2.live.wx hki1.t
        have hd2 : Thg (nwS C S1 tb) d := hd.app
        have lt := hki1.lt
        have hki3 : KI C nms ((nwS C S1 tb).set (S1.length + 2) (.dic (fDic (setW tb w o)))) tb := hki2.far (by omega)
        have rt := hki3.right ok (hd2.mono Ls.setD)
        rw [hN] at rt
        have f1 := flag11 (C := C) (st := nwS C S1 tb) (rfl : true = true)
        have w1 := hlv.w
        have w2 := hki2.live.w
        generalize nwS C S1 tb = S2 at *
        generalize S1.length + 2 = t2 at *
        generalize S1.length = n2 at *
        generalize sgD o = so at *
        generalize D.dic (fDic (setW tb w o)) = X at *
        have ok1 : ∀ fs, okR C.Watch [] (.ins C.Watch fs) = true := fun fs => by simp [okR]
        simp [-dIxA, -dAdd, -dLt, -dEqK, -List.map_map, -mSeq, -mIf, -mFor, -mTAnd, -mTOr, -dr, l_law_k11_1, ec, er, i0, i1, i2, i3, i4, iw, ad, io, et, q3, q4, q5, es, ek, l1, nct, q1, f1, w1, w2, ok1, rt]
        subst hN
        exact turnk_ok hki3
end Lm
set_option maxHeartbeats 1000000
namespace Lm
open PySem L2 Mir
variable {C : Cl} {st S : Sto} {tb : List (Str × Str)} {c t : Nat} {w : Str} {nms : List Str}
theorem table_nil' : Table ([] : List (Str × Str)) := ⟨List.nodup_nil, by simp, by simp, by simp⟩
theorem ki_nil : KI C nms [.ins C.Watch [(Str.ofString "table", .cell 1)], .dic [], .dic []] [] := ⟨⟨rfl, rfl⟩, rfl, table_nil', by simp⟩
theorem fin_turn {d e : D} {T : String} {x0 x1 x3 x4 x6 x7 x8 x9 x10 : Option D} (h : KI C nms S tb) (h1 : dr S d = some e) (h2 : tyName e = some T) :
    l_law_k11_2 C ⟨[x0, x1, some (.cell 0), x3, x4, some d, x6, x7, x8, x9, x10], S⟩ = .ok (.nx ⟨[x0, x1, some (.cell 0), x3, x4, some d, x6, x7, x8, x9, x10], S⟩) := by
  have q := eq2_no (C := C) (x := .cell 0) h1 h2
  have w1 := h.live.w
  have hne : ∀ A fs, e ≠ .ins A fs := fun A fs z => by subst z; cases h2
  have ok1 : okR C.Watch [] e = true := by
    cases e <;> first | (exact absurd rfl (hne _ _)) | (simp only [okR, h2, Option.isSome_some])
  have f1 := flag11 (C := C) (st := S) (rfl : false = false)
  have f2 := flag11 (C := C) (st := S) (rfl : true = true)
  have i1 : (tyName e).isSome = true := by rw [h2]; rfl
  simp [-dr, -okR, -tyName, l_law_k11_2, h1, q, w1, ok1, f1, f2, i1]
theorem fin_loop {x0 x1 x3 x4 x6 x7 x8 x9 x10 : Option D} (h : KI C nms S tb) : ∀ (ds : List D) (y5 : Option D), (∀ d ∈ ds, ∃ e T, dr S d = some e ∧ tyName e = some T) →
    ∃ z5, mLoop (stName 5) (l_law_k11_2 C) ds ⟨[x0, x1, some (.cell 0), x3, x4, y5, x6, x7, x8, x9, x10], S⟩ = .ok (.nx ⟨[x0, x1, some (.cell 0), x3, x4, z5, x6, x7, x8, x9, x10], S⟩)
  | [], y5, _ => ⟨y5, rfl⟩
  | d :: ds, y5, k => by
    obtain ⟨e, T, h1, h2⟩ := k d List.mem_cons_self
    obtain ⟨z5, r⟩ := fin_loop h ds (some d) fun x hx => k x (List.mem_cons_of_mem _ hx)
    refine ⟨z5, ?_⟩
    unfold mLoop
    show Out.bnd (l_law_k11_2 C _) _ = _
    rw [show (RE.put (⟨[x0, x1, some (.cell 0), x3, x4, y5, x6, x7, x8, x9, x10], S⟩ : RE) 5 (some d)) = ⟨[x0, x1, some (.cell 0), x3, x4, some d, x6, x7, x8, x9, x10], S⟩ from rfl, fin_turn h h1 h2]
    exact r
theorem p_law11 (C : Cl) (ns : List Int) (hl : ns.length ≤ 63) : ∃ st, k_law_k11 C [.frl (ns.map D.int)] [] = .ok (.bl true, st) := by
  suffices h : Ev (k_law_k11 C [.frl (ns.map D.int)] []) fun p => ∃ st, p = (.bl true, st) by
    obtain ⟨p, e, st, rfl⟩ := h
    exact ⟨st, e⟩
  refine ev_def rfl ?_
  obtain ⟨c0, ec0⟩ := p_cell (C := C) ns 0
  have ec0 : ∀ st, f_law_cell C [.frl (ns.map D.int), .int 0] st = _ := ec0
  obtain ⟨nms, hn, en⟩ := p_names (C := C) c0 8 (by omega)
  have h8 := hn.len
  have en : ∀ st, f_law_names C [.int c0, .int 8] st = .ok (.lst (sDs nms), st) := en
  have ir := init0_run (C := C) (st := [])
  simp only [List.length_nil, List.nil_append, Nat.zero_add] at ir
  simp [-List.map_map, -mSeq, -mIf, -mFor, -mTAnd, -mTOr, -dr, b_law_k11, ec0, en, ir]
  generalize hz : (if (8 : Int) < if (ns.length : Int) < 63 then (ns.length : Int) else 63 then if (ns.length : Int) < 63 then (ns.length : Int) else 63 else 8) = z
  have z1 : 8 ≤ z ∧ z ≤ 63 := by
    subst hz
    by_cases a : (ns.length : Int) < 63
    · simp only [if_pos a]; by_cases b : (8 : Int) < (ns.length : Int)
      · rw [if_pos b]; omega
      · rw [if_neg b]; omega
    · simp only [if_neg a]; decide
  refine ⟨⟨by omega, by omega⟩, ?_⟩
  refine ev_range (fun k r => ∃ S T y4 y5 y6 y7 y8 y9 y10, KI C nms S T ∧ r = ⟨[some (.frl (ns.map D.int)), some (.lst (sDs nms)), some (.cell 0), some (.cell 2), y4, y5, y6, y7, y8, y9, y10], S⟩) ⟨_, [], none, none, none, none, none, none, none, ki_nil, rfl⟩ ?_ ?_
  · rintro k r hk ⟨S, T, y4, y5, y6, y7, y8, y9, y10, hki, rfl⟩
    refine ⟨_, rfl, ?_⟩
    rw [Int.zero_add]
    refine Ev.mono (k11_step (ns := ns) (k := k) hki h8 hn.ok y5 y6 y7 y8 y9 y10) fun f hf => ?_
    obtain ⟨S', T', z5, z6, z7, z8, z9, z10, h', rfl⟩ := hf
    exact ⟨_, _, _, _, _, _, _, _, _, h', rfl⟩
  rintro r ⟨S, T, y4, y5, y6, y7, y8, y9, y10, hki, rfl⟩
  have hdl := dDict_f (tb := T)
  have h1 := dSort_s (xs := T.map (·.1)) (fun x hx => by obtain ⟨p, hp, rfl⟩ := List.mem_map.mp hx; exact hki.t.okw p hp) hki.t.nd
  have dl := dListD_f T
  have g2 := hki.tab
  have k1 : KI C nms (S ++ [.dic (fDic T)]) T := hki.app
  have c1 : (S ++ [D.dic (fDic T)])[S.length]? = some (.dic (fDic T)) := by simp
  generalize hS1 : S ++ [D.dic (fDic T)] = S1 at *
  have g21 := k1.tab
  obtain ⟨d, J, hd, _, et⟩ := p_thing5 (C := C) (st := S1) (ns.length : Nat) (by omega)
  have k2 : KI C nms (S1 ++ J) T := k1.app
  have c2 : (S1 ++ J)[S.length]? = some (.dic (fDic T)) := by rw [List.getElem?_append_left (List.getElem?_eq_some_iff.mp c1).1]; exact c1
  generalize S1 ++ J = S2 at *
  have g22 := k2.tab
  obtain ⟨e, te, d1, d2⟩ := thing_dr hd
  obtain ⟨z5, lp⟩ := fin_loop (C := C) (x0 := some (.frl (ns.map D.int))) (x1 := some (.lst (sDs nms))) (x3 := some (.cell 2)) (x4 := y4) (x6 := y6) (x7 := y7) (x8 := y8) (x9 := y9) (x10 := y10) k2 [.cell S.length, .lst (sDs (sortS (T.map (·.1)))), .non, .int 0, .str (Str.ofString ""), d] y5 (fun x hx => by
    simp only [List.mem_cons, List.not_mem_nil, or_false] at hx
    rcases hx with rfl | rfl | rfl | rfl | rfl | rfl
    · exact ⟨.dic (fDic T), _, by rw [dr_cl, c2]; rfl, rfl⟩
    · exact ⟨_, _, rfl, rfl⟩
    · exact ⟨_, _, rfl, rfl⟩
    · exact ⟨_, _, rfl, rfl⟩
    · exact ⟨_, _, rfl, rfl⟩
    · exact ⟨_, _, d1, d2⟩)
  have k3 : KI C nms (S2 ++ [.dic (fDic T)]) T := k2.app
  have c3 : (S2 ++ [D.dic (fDic T)])[S2.length]? = some (.dic (fDic T)) := by simp
  have mk := p_wmake2 (C := C) (st := S2 ++ [.dic (fDic T)]) (x := .cell S2.length) hki.t (.inr ⟨_, rfl, c3⟩)
  have ey := eq2_yes (C := C) (wx_wch (C := C) (S := S2 ++ [.dic (fDic T)]) (tb := T)) k3.live.wx k3.t
  have w3 := k3.live.w
  generalize hS3 : S2 ++ [D.dic (fDic T)] = S3 at *
  have g23 := k3.tab
  have ok1 : ∀ fs, okR C.Watch [] (.ins C.Watch fs) = true := fun fs => by simp [okR]
  simp only [fDic] at *
  simp [-dDict, -dSort, -dListD, -List.map_map, -mSeq, -mIf, -mFor, -mTAnd, -mTOr, -dr, hdl, h1, dl, g2, g21, hS1, et]
  rw [lp]
  simp [-dDict, -dSort, -dListD, -List.map_map, -mSeq, -mIf, -mFor, -mTAnd, -mTOr, -dr, hdl, g22, hS3, mk, ey, w3, ok1]
end Lm
set_option maxHeartbeats 4000000
namespace K11
open PySem L2 Mir Lm
def spLaw (K : PySem.W.Frag) : Sp := fun vs H Q _ => ∃ (a : Addr) (ns : List Int), vs = [.ref a] ∧ SqL K H a (ns.map V.int) ∧ ns.length ≤ 63 ∧ ∀ H', Q (.bl true) H'
theorem all_mk {l : PySem.W.OpenLaw} {w : World} {K : PySem.W.Frag} {h : Heap} {mg : Str → Option Value} {fa : Addr} {C_Watch : Addr} {C_BadWord : Addr} {nm_BadWord q_BadWord : Str} {N_BadWord : Addr} {bs_BadWord bm_BadWord : List Value} {sn_BadWord : List Str} {sub_BadWord : List Value} {ab_BadWord : Bool} {col_BadWord : Option Bool} {dd_BadWord : Option Addr} {k0_BadWord k1_BadWord k2_BadWord k3_BadWord k5_BadWord : Option Value} {fI_BadWord cc_BadWord cda_BadWord : Addr} {tf_BadWord : Tok} {doc_BadWord pm_BadWord ct_BadWord oc_BadWord ccl_BadWord ce_BadWord : Value} {an_BadWord od_BadWord cdd_BadWord cld_BadWord : Option Addr} {osl_BadWord ccs_BadWord csl_BadWord : Array (Option Value)} {vs_BadWord : Array Value} {file_BadWord : Str} {f1 : Addr} {od1 an1 : Option Addr} {sl1 : Array (Option Value)} {oc1 kV1 dc1 pm1 cd1 ct1 : Value} {f2 : Addr} {od2 an2 : Option Addr} {sl2 : Array (Option Value)} {oc2 kV2 dc2 pm2 cd2 ct2 : Value} {f3 : Addr} {od3 an3 : Option Addr} {sl3 : Array (Option Value)} {oc3 kV3 dc3 pm3 cd3 ct3 : Value} {f4 : Addr} {od4 an4 : Option Addr} {sl4 : Array (Option Value)} {oc4 kV4 dc4 pm4 cd4 ct4 : Value} {T4 : Addr} {tc4 : Value} {td4 : Option Addr} {ts4 : Array (Option Value)} {tn4 : Nat} {f5 : Addr} {od5 an5 : Option Addr} {sl5 : Array (Option Value)} {oc5 kV5 dc5 pm5 cd5 ct5 : Value} {p5 : Addr} {pr5 : List Value} {f6 : Addr} {od6 an6 : Option Addr} {sl6 : Array (Option Value)} {oc6 kV6 dc6 pm6 cd6 ct6 : Value} {p6 : Addr} {pr6 : List Value} {f7 : Addr} {od7 an7 : Option Addr} {sl7 : Array (Option Value)} {oc7 kV7 dc7 pm7 cd7 ct7 : Value} {f8 : Addr} {od8 an8 : Option Addr} {sl8 : Array (Option Value)} {oc8 kV8 dc8 pm8 cd8 ct8 : Value} {f9 : Addr} {od9 an9 : Option Addr} {sl9 : Array (Option Value)} {oc9 kV9 dc9 pm9 cd9 ct9 : Value} {f10 : Addr} {od10 an10 : Option Addr} {sl10 : Array (Option Value)} {oc10 kV10 dc10 pm10 cd10 ct10 : Value} {f11 : Addr} {od11 an11 : Option Addr} {sl11 : Array (Option Value)} {oc11 kV11 dc11 pm11 cd11 ct11 : Value} {f12 : Addr} {od12 an12 : Option Addr} {sl12 : Array (Option Value)} {oc12 kV12 dc12 pm12 cd12 ct12 : Value} {f13 : Addr} {od13 an13 : Option Addr} {sl13 : Array (Option Value)} {oc13 kV13 dc13 pm13 cd13 ct13 : Value} {f14 : Addr} {od14 an14 : Option Addr} {sl14 : Array (Option Value)} {oc14 kV14 dc14 pm14 cd14 ct14 : Value} {f15 : Addr} {od15 an15 : Option Addr} {sl15 : Array (Option Value)} {oc15 kV15 dc15 pm15 cd15 ct15 : Value} {f16 : Addr} {od16 an16 : Option Addr} {sl16 : Array (Option Value)} {oc16 kV16 dc16 pm16 cd16 ct16 : Value} {f17 : Addr} {od17 an17 : Option Addr} {sl17 : Array (Option Value)} {oc17 kV17 dc17 pm17 cd17 ct17 : Value} {f18 : Addr} {od18 an18 : Option Addr} {sl18 : Array (Option Value)} {oc18 kV18 dc18 pm18 cd18 ct18 : Value} {f19 : Addr} {od19 an19 : Option Addr} {sl19 : Array (Option Value)} {oc19 kV19 dc19 pm19 cd19 ct19 : Value} {f20 : Addr} {od20 an20 : Option Addr} {sl20 : Array (Option Value)} {oc20 kV20 dc20 pm20 cd20 ct20 : Value} {f21 : Addr} {od21 an21 : Option Addr} {sl21 : Array (Option Value)} {oc21 kV21 dc21 pm21 cd21 ct21 : Value} {f22 : Addr} {od22 an22 : Option Addr} {sl22 : Array (Option Value)} {oc22 kV22 dc22 pm22 cd22 ct22 : Value} {f23 : Addr} {od23 an23 : Option Addr} {sl23 : Array (Option Value)} {oc23 kV23 dc23 pm23 cd23 ct23 : Value} {f24 : Addr} {od24 an24 : Option Addr} {sl24 : Array (Option Value)} {oc24 kV24 dc24 pm24 cd24 ct24 : Value} {f25 : Addr} {od25 an25 : Option Addr} {sl25 : Array (Option Value)} {oc25 kV25 dc25 pm25 cd25 ct25 : Value} {t_LETTERS : Tok} {t_MOST_LETTERS : Tok} (X : K.In h) (G : h.Ns mainGlobals mg) (hfa : mg (Str.ofString "law") = some (.ref fa))
    (m_Watch : PySem.W.nsIn K mainGlobals (Str.ofString "Watch") = some (some (.ref C_Watch)))
    (pg_Watch : PySem.W.plainGet K C_Watch Str.empty = true)
    (hd_Watch : PySem.W.hasDictIn K C_Watch = true)
    (po_Watch : PySem.W.plainOver K C_Watch = true)
    (sa_Watch : PySem.W.findIn K (.ref C_Watch) "__setattr__" = some (some (.builtin "object.__setattr__")))
    (mk_Watch : PySem.W.makesIn K C_Watch = true)
    (kc_Watch : PySem.W.keepIn K (.ref C_Watch) = true)
    (m_BadWord : PySem.W.nsIn K mainGlobals (Str.ofString "BadWord") = some (some (.ref C_BadWord)))
    (sTh : PySem.W.nsIn K cStatics "thirdparty.any" = some none)
    (sTop : (l.prog.main.scope.names.lookup ("super" : Str)).isSome = false)
    (sA_BadWord : K.lookup C_BadWord = some (excClassObj nm_BadWord q_BadWord C_BadWord N_BadWord bs_BadWord bm_BadWord true sn_BadWord sub_BadWord ab_BadWord col_BadWord dd_BadWord k0_BadWord k1_BadWord k2_BadWord k3_BadWord k5_BadWord "ValueError.__new__"))
    (sB_BadWord : PySem.HandSPX.refsVE bm_BadWord = true)
    (sC_BadWord : PySem.W.findIn K (.ref C_BadWord) "__setattr__" = some (some (.builtin "object.__setattr__")))
    (sD_BadWord : PySem.W.subIn K (.ref C_BadWord) (.type "BaseException") = some true)
    (sE_BadWord : PySem.W.typeIn K (.ref C_BadWord) = some (.type "type"))
    (sF_BadWord : PySem.W.keepIn K (.ref C_BadWord) = true)
    (sG_BadWord : PySem.W.ks_superIn K C_BadWord C_BadWord "__init__" = some (some (.builtin "ValueError.__init__")))
    (sH_BadWord : PySem.W.findIn K (.ref C_BadWord) "__init__" = some (some (.ref fI_BadWord)))
    (sI_BadWord : PySem.W.typeIn K (.ref fI_BadWord) = some (.type "function"))
    (sJ_BadWord : K.lookup fI_BadWord = some ⟨oc_BadWord, od_BadWord, .func (PySem.W.ksFn (Str.ofString "__init__") (Str.ofString "BadWord.__init__") (defArgs s_err_BadWord) (defBody s_err_BadWord) (defScope s_err_BadWord) Value.none Value.none doc_BadWord pm_BadWord an_BadWord (.ref cda_BadWord) ct_BadWord cc_BadWord), osl_BadWord⟩)
    (sK_BadWord : PySem.W.codeIn K (.ref cda_BadWord) (Str.ofString "BadWord.__init__") = true)
    (sL_BadWord : K.lookup cda_BadWord = some ⟨ccl_BadWord, cdd_BadWord, .fields vs_BadWord, ccs_BadWord⟩)
    (sM_BadWord : vs_BadWord[2]? = some (.str file_BadWord tf_BadWord))
    (sO_BadWord : ((l.prog.main.file : Str) == file_BadWord) = true)
    (sP_BadWord : K.lookup cc_BadWord = some ⟨ce_BadWord, cld_BadWord, .cell (some (.ref C_BadWord)), csl_BadWord⟩)
    (xA_BadWord : PySem.W.findIn K (.ref C_BadWord) "__getattribute__" = some (some (.builtin "BaseException.__getattribute__")))
    (xB_BadWord : PySem.W.findIn K (.ref C_BadWord) "__getattr__" = some none)
    (xC_BadWord : PySem.W.subIn K (.ref C_BadWord) (.type "BaseException") = some true)
    (xD_BadWord : PySem.W.hasDictIn K C_BadWord = true)
    (xE_BadWord : PySem.W.findIn K (.ref C_BadWord) (Str.ofString "value") = some none)
    (xm_BadWord_BadWord : PySem.W.exmOne K (.ref C_BadWord) (.ref C_BadWord) = some true)
    (na_Watch_table : PySem.W.findIn K (.ref C_Watch) (Str.ofString "table") = some none)
    (ihn : PySem.W.specialIn K (.builtin "object.__class__") "__get__" = some (some (.builtin "getset_descriptor.__get__")))
    (ihtk : PySem.W.takesIn K (.builtin "object.__class__") = some true)
    (isq_Watch : PySem.W.noSeq K C_Watch = true)
    (isf_Watch : PySem.W.selfFirst K C_Watch = true)
    (nr_Watch_NoneType : PySem.W.subIn K (.ref C_Watch) (.type "NoneType") = some false)
    (nr_Watch_bool : PySem.W.subIn K (.ref C_Watch) (.type "bool") = some false)
    (nr_Watch_int : PySem.W.subIn K (.ref C_Watch) (.type "int") = some false)
    (nr_Watch_str : PySem.W.subIn K (.ref C_Watch) (.type "str") = some false)
    (nr_Watch_tuple : PySem.W.subIn K (.ref C_Watch) (.type "tuple") = some false)
    (nr_Watch_list : PySem.W.subIn K (.ref C_Watch) (.type "list") = some false)
    (nr_Watch_dict : PySem.W.subIn K (.ref C_Watch) (.type "dict") = some false)
    (ine_Watch : PySem.W.findIn K (.ref C_Watch) "__ne__" = some (some (.builtin "object.__ne__")))
    (iha_Watch : PySem.W.findIn K (.ref C_Watch) "__class__" = some (some (.builtin "object.__class__")))
    (ihm_Watch : PySem.W.mroIn K C_Watch (.type "object") = some true)
    (icl_Watch : PySem.W.isClsIn K C_Watch = true)
    (ity_Watch : PySem.W.typeIn K (.ref C_Watch) = some (.type "type"))
    (iy_Watch_NoneType : PySem.W.subIn K (.type "NoneType") (.ref C_Watch) = some false)
    (iy_Watch_bool : PySem.W.subIn K (.type "bool") (.ref C_Watch) = some false)
    (iy_Watch_int : PySem.W.subIn K (.type "int") (.ref C_Watch) = some false)
    (iy_Watch_str : PySem.W.subIn K (.type "str") (.ref C_Watch) = some false)
    (iy_Watch_tuple : PySem.W.subIn K (.type "tuple") (.ref C_Watch) = some false)
    (iy_Watch_list : PySem.W.subIn K (.type "list") (.ref C_Watch) = some false)
    (iy_Watch_dict : PySem.W.subIn K (.type "dict") (.ref C_Watch) = some false)
    (a1 : PySem.W.nsIn K mainGlobals (Str.ofString "is_name") = some (some (.ref f1)))
    (l1 : K.lookup f1 = some ⟨oc1, od1, .func (PySem.W.fnOf (Str.ofString "is_name") (Str.ofString "is_name") (defArgs s_is_name) (defBody s_is_name) (defScope s_is_name) .none kV1 dc1 pm1 an1 cd1 ct1), sl1⟩)
    (c1 : PySem.W.codeIn K cd1 (Str.ofString "is_name") = true)
    (k1 : PySem.W.keepIn K (.ref f1) = true)
    (a2 : PySem.W.nsIn K mainGlobals (Str.ofString "is_row") = some (some (.ref f2)))
    (l2 : K.lookup f2 = some ⟨oc2, od2, .func (PySem.W.fnOf (Str.ofString "is_row") (Str.ofString "is_row") (defArgs s_is_row) (defBody s_is_row) (defScope s_is_row) .none kV2 dc2 pm2 an2 cd2 ct2), sl2⟩)
    (c2 : PySem.W.codeIn K cd2 (Str.ofString "is_row") = true)
    (k2 : PySem.W.keepIn K (.ref f2) = true)
    (a3 : PySem.W.nsIn K mainGlobals (Str.ofString "is_sight_table") = some (some (.ref f3)))
    (l3 : K.lookup f3 = some ⟨oc3, od3, .func (PySem.W.fnOf (Str.ofString "is_sight_table") (Str.ofString "is_sight_table") (defArgs s_is_sight_table) (defBody s_is_sight_table) (defScope s_is_sight_table) .none kV3 dc3 pm3 an3 cd3 ct3), sl3⟩)
    (c3 : PySem.W.codeIn K cd3 (Str.ofString "is_sight_table") = true)
    (k3 : PySem.W.keepIn K (.ref f3) = true)
    (a4 : PySem.W.findIn K (.ref C_Watch) (Str.ofString "__init__") = some (some (.ref f4)))
    (i4 : PySem.W.isFn K (.ref f4) = true)
    (l4 : K.lookup f4 = some ⟨oc4, od4, .func (PySem.W.fnOf (Str.ofString "__init__") (Str.ofString "Watch.__init__") (defArgs s_Watch_init) (defBody s_Watch_init) (defScope s_Watch_init) (.ref T4) kV4 dc4 pm4 an4 cd4 ct4), sl4⟩)
    (t4 : K.lookup T4 = some ⟨tc4, td4, .seq #[.none] tn4, ts4⟩)
    (c4 : PySem.W.codeIn K cd4 (Str.ofString "Watch.__init__") = true)
    (k4 : PySem.W.keepIn K (.ref f4) = true)
    (a5 : PySem.W.findIn K (.ref C_Watch) (Str.ofString "words") = some (some (.ref p5)))
    (pa5 : PySem.W.specialIn K (.ref p5) "__get__" = some (some (.builtin "property.__get__")))
    (pb5 : PySem.W.takesIn K (.ref p5) = some true)
    (pc5 : PySem.W.recIn K p5 "property" = some (.ref f5 :: pr5))
    (l5 : K.lookup f5 = some ⟨oc5, od5, .func (PySem.W.fnOf (Str.ofString "words") (Str.ofString "Watch.words") (defArgs s_Watch_words) (defBody s_Watch_words) (defScope s_Watch_words) .none kV5 dc5 pm5 an5 cd5 ct5), sl5⟩)
    (c5 : PySem.W.codeIn K cd5 (Str.ofString "Watch.words") = true)
    (k5 : PySem.W.keepIn K (.ref f5) = true)
    (a6 : PySem.W.findIn K (.ref C_Watch) (Str.ofString "sights") = some (some (.ref p6)))
    (pa6 : PySem.W.specialIn K (.ref p6) "__get__" = some (some (.builtin "property.__get__")))
    (pb6 : PySem.W.takesIn K (.ref p6) = some true)
    (pc6 : PySem.W.recIn K p6 "property" = some (.ref f6 :: pr6))
    (l6 : K.lookup f6 = some ⟨oc6, od6, .func (PySem.W.fnOf (Str.ofString "sights") (Str.ofString "Watch.sights") (defArgs s_Watch_sights) (defBody s_Watch_sights) (defScope s_Watch_sights) .none kV6 dc6 pm6 an6 cd6 ct6), sl6⟩)
    (c6 : PySem.W.codeIn K cd6 (Str.ofString "Watch.sights") = true)
    (k6 : PySem.W.keepIn K (.ref f6) = true)
    (a7 : PySem.W.findIn K (.ref C_Watch) (Str.ofString "copy") = some (some (.ref f7)))
    (i7 : PySem.W.isFn K (.ref f7) = true)
    (l7 : K.lookup f7 = some ⟨oc7, od7, .func (PySem.W.fnOf (Str.ofString "copy") (Str.ofString "Watch.copy") (defArgs s_Watch_copy) (defBody s_Watch_copy) (defScope s_Watch_copy) .none kV7 dc7 pm7 an7 cd7 ct7), sl7⟩)
    (c7 : PySem.W.codeIn K cd7 (Str.ofString "Watch.copy") = true)
    (k7 : PySem.W.keepIn K (.ref f7) = true)
    (a8 : PySem.W.findIn K (.ref C_Watch) (Str.ofString "__eq__") = some (some (.ref f8)))
    (i8 : PySem.W.isFn K (.ref f8) = true)
    (l8 : K.lookup f8 = some ⟨oc8, od8, .func (PySem.W.fnOf (Str.ofString "__eq__") (Str.ofString "Watch.__eq__") (defArgs s_Watch_eq) (defBody s_Watch_eq) (defScope s_Watch_eq) .none kV8 dc8 pm8 an8 cd8 ct8), sl8⟩)
    (c8 : PySem.W.codeIn K cd8 (Str.ofString "Watch.__eq__") = true)
    (k8 : PySem.W.keepIn K (.ref f8) = true)
    (a9 : PySem.W.findIn K (.ref C_Watch) (Str.ofString "__len__") = some (some (.ref f9)))
    (i9 : PySem.W.isFn K (.ref f9) = true)
    (n9 : PySem.W.fnIn K f9 = true)
    (l9 : K.lookup f9 = some ⟨oc9, od9, .func (PySem.W.fnOf (Str.ofString "__len__") (Str.ofString "Watch.__len__") (defArgs s_Watch_len) (defBody s_Watch_len) (defScope s_Watch_len) .none kV9 dc9 pm9 an9 cd9 ct9), sl9⟩)
    (c9 : PySem.W.codeIn K cd9 (Str.ofString "Watch.__len__") = true)
    (k9 : PySem.W.keepIn K (.ref f9) = true)
    (a10 : PySem.W.findIn K (.ref C_Watch) (Str.ofString "__bool__") = some (some (.ref f10)))
    (i10 : PySem.W.isFn K (.ref f10) = true)
    (n10 : PySem.W.fnIn K f10 = true)
    (l10 : K.lookup f10 = some ⟨oc10, od10, .func (PySem.W.fnOf (Str.ofString "__bool__") (Str.ofString "Watch.__bool__") (defArgs s_Watch_bool) (defBody s_Watch_bool) (defScope s_Watch_bool) .none kV10 dc10 pm10 an10 cd10 ct10), sl10⟩)
    (c10 : PySem.W.codeIn K cd10 (Str.ofString "Watch.__bool__") = true)
    (k10 : PySem.W.keepIn K (.ref f10) = true)
    (a11 : PySem.W.findIn K (.ref C_Watch) (Str.ofString "__contains__") = some (some (.ref f11)))
    (i11 : PySem.W.isFn K (.ref f11) = true)
    (n11 : PySem.W.fnIn K f11 = true)
    (l11 : K.lookup f11 = some ⟨oc11, od11, .func (PySem.W.fnOf (Str.ofString "__contains__") (Str.ofString "Watch.__contains__") (defArgs s_Watch_contains) (defBody s_Watch_contains) (defScope s_Watch_contains) .none kV11 dc11 pm11 an11 cd11 ct11), sl11⟩)
    (c11 : PySem.W.codeIn K cd11 (Str.ofString "Watch.__contains__") = true)
    (k11 : PySem.W.keepIn K (.ref f11) = true)
    (a12 : PySem.W.findIn K (.ref C_Watch) (Str.ofString "__getitem__") = some (some (.ref f12)))
    (i12 : PySem.W.isFn K (.ref f12) = true)
    (n12 : PySem.W.fnIn K f12 = true)
    (l12 : K.lookup f12 = some ⟨oc12, od12, .func (PySem.W.fnOf (Str.ofString "__getitem__") (Str.ofString "Watch.__getitem__") (defArgs s_Watch_getitem) (defBody s_Watch_getitem) (defScope s_Watch_getitem) .none kV12 dc12 pm12 an12 cd12 ct12), sl12⟩)
    (c12 : PySem.W.codeIn K cd12 (Str.ofString "Watch.__getitem__") = true)
    (k12 : PySem.W.keepIn K (.ref f12) = true)
    (a13 : PySem.W.findIn K (.ref C_Watch) (Str.ofString "__setitem__") = some (some (.ref f13)))
    (i13 : PySem.W.isFn K (.ref f13) = true)
    (n13 : PySem.W.fnIn K f13 = true)
    (l13 : K.lookup f13 = some ⟨oc13, od13, .func (PySem.W.fnOf (Str.ofString "__setitem__") (Str.ofString "Watch.__setitem__") (defArgs s_Watch_setitem) (defBody s_Watch_setitem) (defScope s_Watch_setitem) .none kV13 dc13 pm13 an13 cd13 ct13), sl13⟩)
    (c13 : PySem.W.codeIn K cd13 (Str.ofString "Watch.__setitem__") = true)
    (k13 : PySem.W.keepIn K (.ref f13) = true)
    (a14 : PySem.W.nsIn K mainGlobals (Str.ofString "_law_mix") = some (some (.ref f14)))
    (l14 : K.lookup f14 = some ⟨oc14, od14, .func (PySem.W.fnOf (Str.ofString "_law_mix") (Str.ofString "_law_mix") (defArgs s_law_mix) (defBody s_law_mix) (defScope s_law_mix) .none kV14 dc14 pm14 an14 cd14 ct14), sl14⟩)
    (c14 : PySem.W.codeIn K cd14 (Str.ofString "_law_mix") = true)
    (k14 : PySem.W.keepIn K (.ref f14) = true)
    (a15 : PySem.W.nsIn K mainGlobals (Str.ofString "_law_cell") = some (some (.ref f15)))
    (l15 : K.lookup f15 = some ⟨oc15, od15, .func (PySem.W.fnOf (Str.ofString "_law_cell") (Str.ofString "_law_cell") (defArgs s_law_cell) (defBody s_law_cell) (defScope s_law_cell) .none kV15 dc15 pm15 an15 cd15 ct15), sl15⟩)
    (c15 : PySem.W.codeIn K cd15 (Str.ofString "_law_cell") = true)
    (k15 : PySem.W.keepIn K (.ref f15) = true)
    (a16 : PySem.W.nsIn K mainGlobals (Str.ofString "_law_row") = some (some (.ref f16)))
    (l16 : K.lookup f16 = some ⟨oc16, od16, .func (PySem.W.fnOf (Str.ofString "_law_row") (Str.ofString "_law_row") (defArgs s_law_row) (defBody s_law_row) (defScope s_law_row) .none kV16 dc16 pm16 an16 cd16 ct16), sl16⟩)
    (c16 : PySem.W.codeIn K cd16 (Str.ofString "_law_row") = true)
    (k16 : PySem.W.keepIn K (.ref f16) = true)
    (a17 : PySem.W.nsIn K mainGlobals (Str.ofString "_law_names") = some (some (.ref f17)))
    (l17 : K.lookup f17 = some ⟨oc17, od17, .func (PySem.W.fnOf (Str.ofString "_law_names") (Str.ofString "_law_names") (defArgs s_law_names) (defBody s_law_names) (defScope s_law_names) .none kV17 dc17 pm17 an17 cd17 ct17), sl17⟩)
    (c17 : PySem.W.codeIn K cd17 (Str.ofString "_law_names") = true)
    (k17 : PySem.W.keepIn K (.ref f17) = true)
    (a18 : PySem.W.nsIn K mainGlobals (Str.ofString "_law_is_integer") = some (some (.ref f18)))
    (l18 : K.lookup f18 = some ⟨oc18, od18, .func (PySem.W.fnOf (Str.ofString "_law_is_integer") (Str.ofString "_law_is_integer") (defArgs s_law_is_integer) (defBody s_law_is_integer) (defScope s_law_is_integer) .none kV18 dc18 pm18 an18 cd18 ct18), sl18⟩)
    (c18 : PySem.W.codeIn K cd18 (Str.ofString "_law_is_integer") = true)
    (k18 : PySem.W.keepIn K (.ref f18) = true)
    (a19 : PySem.W.nsIn K mainGlobals (Str.ofString "_law_flag") = some (some (.ref f19)))
    (l19 : K.lookup f19 = some ⟨oc19, od19, .func (PySem.W.fnOf (Str.ofString "_law_flag") (Str.ofString "_law_flag") (defArgs s_law_flag) (defBody s_law_flag) (defScope s_law_flag) .none kV19 dc19 pm19 an19 cd19 ct19), sl19⟩)
    (c19 : PySem.W.codeIn K cd19 (Str.ofString "_law_flag") = true)
    (k19 : PySem.W.keepIn K (.ref f19) = true)
    (a20 : PySem.W.nsIn K mainGlobals (Str.ofString "_law_exact") = some (some (.ref f20)))
    (l20 : K.lookup f20 = some ⟨oc20, od20, .func (PySem.W.fnOf (Str.ofString "_law_exact") (Str.ofString "_law_exact") (defArgs s_law_exact) (defBody s_law_exact) (defScope s_law_exact) .none kV20 dc20 pm20 an20 cd20 ct20), sl20⟩)
    (c20 : PySem.W.codeIn K cd20 (Str.ofString "_law_exact") = true)
    (k20 : PySem.W.keepIn K (.ref f20) = true)
    (a21 : PySem.W.nsIn K mainGlobals (Str.ofString "_law_deep") = some (some (.ref f21)))
    (l21 : K.lookup f21 = some ⟨oc21, od21, .func (PySem.W.fnOf (Str.ofString "_law_deep") (Str.ofString "_law_deep") (defArgs s_law_deep) (defBody s_law_deep) (defScope s_law_deep) .none kV21 dc21 pm21 an21 cd21 ct21), sl21⟩)
    (c21 : PySem.W.codeIn K cd21 (Str.ofString "_law_deep") = true)
    (k21 : PySem.W.keepIn K (.ref f21) = true)
    (a22 : PySem.W.nsIn K mainGlobals (Str.ofString "_law_thing") = some (some (.ref f22)))
    (l22 : K.lookup f22 = some ⟨oc22, od22, .func (PySem.W.fnOf (Str.ofString "_law_thing") (Str.ofString "_law_thing") (defArgs s_law_thing) (defBody s_law_thing) (defScope s_law_thing) .none kV22 dc22 pm22 an22 cd22 ct22), sl22⟩)
    (c22 : PySem.W.codeIn K cd22 (Str.ofString "_law_thing") = true)
    (k22 : PySem.W.keepIn K (.ref f22) = true)
    (a23 : PySem.W.nsIn K mainGlobals (Str.ofString "_law_set") = some (some (.ref f23)))
    (l23 : K.lookup f23 = some ⟨oc23, od23, .func (PySem.W.fnOf (Str.ofString "_law_set") (Str.ofString "_law_set") (defArgs s_law_set) (defBody s_law_set) (defScope s_law_set) .none kV23 dc23 pm23 an23 cd23 ct23), sl23⟩)
    (c23 : PySem.W.codeIn K cd23 (Str.ofString "_law_set") = true)
    (k23 : PySem.W.keepIn K (.ref f23) = true)
    (a24 : PySem.W.nsIn K mainGlobals (Str.ofString "_law_right") = some (some (.ref f24)))
    (l24 : K.lookup f24 = some ⟨oc24, od24, .func (PySem.W.fnOf (Str.ofString "_law_right") (Str.ofString "_law_right") (defArgs s_law_right) (defBody s_law_right) (defScope s_law_right) .none kV24 dc24 pm24 an24 cd24 ct24), sl24⟩)
    (c24 : PySem.W.codeIn K cd24 (Str.ofString "_law_right") = true)
    (k24 : PySem.W.keepIn K (.ref f24) = true)
    (a25 : PySem.W.nsIn K mainGlobals (Str.ofString "law") = some (some (.ref f25)))
    (l25 : K.lookup f25 = some ⟨oc25, od25, .func (PySem.W.fnOf (Str.ofString "law") (Str.ofString "law") (defArgs s_law) (defBody s_law) (defScope s_law) .none kV25 dc25 pm25 an25 cd25 ct25), sl25⟩)
    (c25 : PySem.W.codeIn K cd25 (Str.ofString "law") = true)
    (k25 : PySem.W.keepIn K (.ref f25) = true)
    (z_bool : PySem.W.nsIn K mainGlobals (Str.ofString "bool") = some none)
    (z_dict : PySem.W.nsIn K mainGlobals (Str.ofString "dict") = some none)
    (z_int : PySem.W.nsIn K mainGlobals (Str.ofString "int") = some none)
    (z_isinstance : PySem.W.nsIn K mainGlobals (Str.ofString "isinstance") = some none)
    (z_len : PySem.W.nsIn K mainGlobals (Str.ofString "len") = some none)
    (z_list : PySem.W.nsIn K mainGlobals (Str.ofString "list") = some none)
    (z_max : PySem.W.nsIn K mainGlobals (Str.ofString "max") = some none)
    (z_min : PySem.W.nsIn K mainGlobals (Str.ofString "min") = some none)
    (z_range : PySem.W.nsIn K mainGlobals (Str.ofString "range") = some none)
    (z_set : PySem.W.nsIn K mainGlobals (Str.ofString "set") = some none)
    (z_sorted : PySem.W.nsIn K mainGlobals (Str.ofString "sorted") = some none)
    (z_str : PySem.W.nsIn K mainGlobals (Str.ofString "str") = some none)
    (z_super : PySem.W.nsIn K mainGlobals (Str.ofString "super") = some none)
    (z_tuple : PySem.W.nsIn K mainGlobals (Str.ofString "tuple") = some none)
    (q_LETTERS : PySem.W.nsIn K mainGlobals (Str.ofString "LETTERS") = some (some (.str (Str.ofString "abcdefghijklmnopqrstuvwxyz") t_LETTERS)))
    (q_MOST_LETTERS : PySem.W.nsIn K mainGlobals (Str.ofString "MOST_LETTERS") = some (some (.int 12 t_MOST_LETTERS))) :
    ∃ fd : FuncData, (∀ (s : Shared) (v : Value), BindsTo s fd ⟨[v], []⟩ [(Str.ofString "_law_script", v)]) ∧ ∀ base : Heap, K.In base → base.Ns mainGlobals mg → FnOk l.prog w K mg base CX0 8 fa fd [Str.ofString "_law_script"] (spLaw K) := by
  have e := hfa.symm.trans (PySem.W.mg_of X G a25)
  cases e
  have V_Watch : EqC K C_Watch [] := ⟨⟨⟨⟨pg_Watch, hd_Watch, po_Watch, sa_Watch⟩, iha_Watch, ihn, ihtk, ihm_Watch, kit_self⟩, fun t ht => kit_no icl_Watch ity_Watch (by simp only [List.mem_cons, List.not_mem_nil, or_false] at ht; rcases ht with rfl | rfl | rfl | rfl | rfl | rfl | rfl <;> assumption)⟩, isX_nil,
    fun t ht => by simp only [List.mem_cons, List.not_mem_nil, or_false] at ht; rcases ht with rfl | rfl | rfl | rfl | rfl | rfl | rfl <;> assumption, ine_Watch⟩
  have U_BadWord : XS.SupC l.prog K mg C_BadWord (Str.ofString "value") := ⟨⟨⟨_, _, _, _, _, _, _, _, _, _, _, _, _, _, _, sA_BadWord, sB_BadWord⟩, sC_BadWord, sD_BadWord, sE_BadWord, sF_BadWord⟩, PySem.W.mg_none_of X G z_super, sTh, fun z => XS.al_of2 z sG_BadWord,
    ⟨_, _, _, _, _, _, _, _, _, _, _, _, _, _, _, _, _, _, _, _, _, _, _, _, _, _, _, _, _, _, _, _, _, _, _, _, _, _, _, _, sH_BadWord, sI_BadWord, sJ_BadWord, sK_BadWord, sL_BadWord, sM_BadWord, sO_BadWord, sP_BadWord, xE_BadWord, rfl, rfl, rfl, rfl, rfl, rfl, rfl, rfl, rfl, by decide +kernel, sTop, by decide, fun s e u => .of_eq rfl, by decide, by decide, fun env => rfl, fun env => ⟨_, rfl⟩⟩⟩
  let C : Cl := ⟨0, C_Watch, 0, 0, 0, 0, 0, 0, 0, 0, C_BadWord, 0, 0, 0, 0, 0, 0, 0, 0, 0, 0, 0, 0⟩
  have T : Txt l.prog K mg C := ⟨PySem.W.mg_none_of X G z_bool, PySem.W.mg_none_of X G z_dict, PySem.W.mg_none_of X G z_int, PySem.W.mg_none_of X G z_isinstance, PySem.W.mg_none_of X G z_len, PySem.W.mg_none_of X G z_list, PySem.W.mg_none_of X G z_max, PySem.W.mg_none_of X G z_min, PySem.W.mg_none_of X G z_range, PySem.W.mg_none_of X G z_set, PySem.W.mg_none_of X G z_sorted, PySem.W.mg_none_of X G z_str, PySem.W.mg_none_of X G z_super, PySem.W.mg_none_of X G z_tuple, ⟨_, PySem.W.mg_of X G q_LETTERS⟩, ⟨_, PySem.W.mg_of X G q_MOST_LETTERS⟩, ⟨pg_Watch, hd_Watch, po_Watch, sa_Watch⟩, na_Watch_table, PySem.W.mg_of X G m_Watch, ⟨⟨⟨pg_Watch, hd_Watch, po_Watch, sa_Watch⟩, iha_Watch, ihn, ihtk, ihm_Watch, kit_self⟩, fun t ht => kit_no icl_Watch ity_Watch (by simp only [List.mem_cons, List.not_mem_nil, or_false] at ht; rcases ht with rfl | rfl | rfl | rfl | rfl | rfl | rfl <;> assumption)⟩, ⟨isq_Watch, isf_Watch, ⟨⟨⟨pg_Watch, hd_Watch, po_Watch, sa_Watch⟩, iha_Watch, ihn, ihtk, ihm_Watch, kit_self⟩, fun t ht => kit_no icl_Watch ity_Watch (by simp only [List.mem_cons, List.not_mem_nil, or_false] at ht; rcases ht with rfl | rfl | rfl | rfl | rfl | rfl | rfl <;> assumption)⟩⟩, V_Watch, ⟨fun t ht => by simp only [List.mem_cons, List.not_mem_nil, or_false] at ht; rcases ht with rfl | rfl | rfl | rfl | rfl | rfl | rfl <;> assumption⟩, PySem.W.mg_of X G m_BadWord, U_BadWord, ⟨xA_BadWord, xB_BadWord, xC_BadWord, xD_BadWord⟩, xE_BadWord, xm_BadWord_BadWord⟩
  have F1 := fun_mk (st := s_is_name) l1 c1 k1
  have b1 := F1.binds (ps := [Str.ofString "value"]) fun _ _ _ _ _ _ us hl => match us, hl with | [_], _ => rfl
  have F2 := fun_mk (st := s_is_row) l2 c2 k2
  have b2 := F2.binds (ps := [Str.ofString "value"]) fun _ _ _ _ _ _ us hl => match us, hl with | [_], _ => rfl
  have F3 := fun_mk (st := s_is_sight_table) l3 c3 k3
  have b3 := F3.binds (ps := [Str.ofString "value"]) fun _ _ _ _ _ _ us hl => match us, hl with | [_], _ => rfl
  have F4 := funD_mk (st := s_Watch_init) l4 c4 k4 t4
  have b4 := Binds.nil (F4.binds1 (ps := [Str.ofString "self", Str.ofString "sights"]) 2 1 (by simp) rfl fun _ _ _ _ _ _ _ us its hl hi => match us, hl, its, hi with | [_, _], _, [_], _ => ⟨_, rfl, rfl⟩)
  have F5 := fun_mk (st := s_Watch_words) l5 c5 k5
  have b5 := F5.binds (ps := [Str.ofString "self"]) fun _ _ _ _ _ _ us hl => match us, hl with | [_], _ => rfl
  have F6 := fun_mk (st := s_Watch_sights) l6 c6 k6
  have b6 := F6.binds (ps := [Str.ofString "self"]) fun _ _ _ _ _ _ us hl => match us, hl with | [_], _ => rfl
  have F7 := fun_mk (st := s_Watch_copy) l7 c7 k7
  have b7 := F7.binds (ps := [Str.ofString "self"]) fun _ _ _ _ _ _ us hl => match us, hl with | [_], _ => rfl
  have F8 := fun_mk (st := s_Watch_eq) l8 c8 k8
  have b8 := F8.binds (ps := [Str.ofString "self", Str.ofString "other"]) fun _ _ _ _ _ _ us hl => match us, hl with | [_, _], _ => rfl
  have F9 := fun_mk (st := s_Watch_len) l9 c9 k9
  have b9 := F9.binds (ps := [Str.ofString "self"]) fun _ _ _ _ _ _ us hl => match us, hl with | [_], _ => rfl
  have F10 := fun_mk (st := s_Watch_bool) l10 c10 k10
  have b10 := F10.binds (ps := [Str.ofString "self"]) fun _ _ _ _ _ _ us hl => match us, hl with | [_], _ => rfl
  have F11 := fun_mk (st := s_Watch_contains) l11 c11 k11
  have b11 := F11.binds (ps := [Str.ofString "self", Str.ofString "word"]) fun _ _ _ _ _ _ us hl => match us, hl with | [_, _], _ => rfl
  have F12 := fun_mk (st := s_Watch_getitem) l12 c12 k12
  have b12 := F12.binds (ps := [Str.ofString "self", Str.ofString "word"]) fun _ _ _ _ _ _ us hl => match us, hl with | [_, _], _ => rfl
  have F13 := fun_mk (st := s_Watch_setitem) l13 c13 k13
  have b13 := F13.binds (ps := [Str.ofString "self", Str.ofString "word", Str.ofString "sight"]) fun _ _ _ _ _ _ us hl => match us, hl with | [_, _, _], _ => rfl
  have F14 := fun_mk (st := s_law_mix) l14 c14 k14
  have b14 := F14.binds (ps := [Str.ofString "_law_cell_here", Str.ofString "_law_k"]) fun _ _ _ _ _ _ us hl => match us, hl with | [_, _], _ => rfl
  have F15 := fun_mk (st := s_law_cell) l15 c15 k15
  have b15 := F15.binds (ps := [Str.ofString "_law_script", Str.ofString "_law_k"]) fun _ _ _ _ _ _ us hl => match us, hl with | [_, _], _ => rfl
  have F16 := fun_mk (st := s_law_row) l16 c16 k16
  have b16 := F16.binds (ps := [Str.ofString "_law_cell_here", Str.ofString "_law_sizes"]) fun _ _ _ _ _ _ us hl => match us, hl with | [_, _], _ => rfl
  have F17 := fun_mk (st := s_law_names) l17 c17 k17
  have b17 := F17.binds (ps := [Str.ofString "_law_cell_here", Str.ofString "_law_many"]) fun _ _ _ _ _ _ us hl => match us, hl with | [_, _], _ => rfl
  have F18 := fun_mk (st := s_law_is_integer) l18 c18 k18
  have b18 := F18.binds (ps := [Str.ofString "_law_thing_here"]) fun _ _ _ _ _ _ us hl => match us, hl with | [_], _ => rfl
  have F19 := fun_mk (st := s_law_flag) l19 c19 k19
  have b19 := F19.binds (ps := [Str.ofString "_law_told", Str.ofString "_law_due"]) fun _ _ _ _ _ _ us hl => match us, hl with | [_, _], _ => rfl
  have F20 := fun_mk (st := s_law_exact) l20 c20 k20
  have b20 := F20.binds (ps := [Str.ofString "_law_told", Str.ofString "_law_due"]) fun _ _ _ _ _ _ us hl => match us, hl with | [_, _], _ => rfl
  have F21 := fun_mk (st := s_law_deep) l21 c21 k21
  have b21 := F21.binds (ps := [Str.ofString "_law_many"]) fun _ _ _ _ _ _ us hl => match us, hl with | [_], _ => rfl
  have F22 := fun_mk (st := s_law_thing) l22 c22 k22
  have b22 := F22.binds (ps := [Str.ofString "_law_digit"]) fun _ _ _ _ _ _ us hl => match us, hl with | [_], _ => rfl
  have F23 := fun_mk (st := s_law_set) l23 c23 k23
  have b23 := F23.binds (ps := [Str.ofString "_law_watch", Str.ofString "_law_word", Str.ofString "_law_sight"]) fun _ _ _ _ _ _ us hl => match us, hl with | [_, _, _], _ => rfl
  have F24 := fun_mk (st := s_law_right) l24 c24 k24
  have b24 := F24.binds (ps := [Str.ofString "_law_watch", Str.ofString "_law_table", Str.ofString "_law_names_here", Str.ofString "_law_thing_here"]) fun _ _ _ _ _ _ us hl => match us, hl with | [_, _, _, _], _ => rfl
  have F25 := fun_mk (st := s_law) l25 c25 k25
  refine ⟨PySem.W.fnOf (Str.ofString "law") (Str.ofString "law") (defArgs s_law) (defBody s_law) (defScope s_law) .none kV25 dc25 pm25 an25 cd25 ct25, fun s v => .of_eq rfl, fun base _ _ => ?_⟩
  have G_is_name : Fn0 l.prog w K mg base 1 (Str.ofString "is_name") 1 (k_is_name C) := ok_is_name T F1 (PySem.W.mg_of X G a1) b1 
  have G_is_row : Fn0 l.prog w K mg base 1 (Str.ofString "is_row") 1 (k_is_row C) := ok_is_row T F2 (PySem.W.mg_of X G a2) b2 
  have G_is_sight_table : Fn0 l.prog w K mg base 2 (Str.ofString "is_sight_table") 1 (k_is_sight_table C) := ok_is_sight_table T F3 (PySem.W.mg_of X G a3) b3 G_is_name
  have G_Watch_init : Mkr l.prog w K mg base 3 (Str.ofString "Watch") C.Watch 1 (k_Watch_init_2 C) := ⟨_, ⟨mk_Watch, a4, i4, kc_Watch⟩, PySem.W.mg_of X G m_Watch, ok_Watch_init T F4 b4 G_is_sight_table⟩
  have E_Watch_init : Mkd l.prog w K mg base 3 (Str.ofString "Watch") C.Watch 1 (k_Watch_init_2 C) := by
    obtain ⟨dd, vd, bd⟩ := F4.binds1 (ps := [Str.ofString "self", Str.ofString "sights"]) 1 0 (by simp) rfl fun _ _ _ _ _ _ _ us its hl hi => match us, hl, its, hi with | [_], _, [_], _ => ⟨_, rfl, rfl⟩
    exact ⟨_, _, ⟨mk_Watch, a4, i4, kc_Watch⟩, PySem.W.mg_of X G m_Watch, ok_Watch_init T F4 bd G_is_sight_table, vd⟩
  have G_Watch_words : Prp l.prog w K mg base 1 C.Watch (Str.ofString "words") (k_Watch_words_2 C) := ⟨_, _, ⟨a5, pa5, pb5, _, pc5⟩, ok_Watch_words T F5 b5 ⟩
  have G_Watch_sights : Prp l.prog w K mg base 1 C.Watch (Str.ofString "sights") (k_Watch_sights_2 C) := ⟨_, _, ⟨a6, pa6, pb6, _, pc6⟩, ok_Watch_sights T F6 b6 ⟩
  have G_Watch_copy : Mth l.prog w K mg base 5 C.Watch (Str.ofString "copy") 1 (k_Watch_copy_2 C) := ⟨_, T.cl_Watch, ⟨a7, i7, k7⟩, ok_Watch_copy T F7 b7 G_Watch_init⟩
  have G_Watch_eq : EqO l.prog w K mg base 1 C.Watch (k_Watch_eq_2 C) := ⟨_, a8, i8, ok_Watch_eq T F8 b8 ⟩
  have G_Watch_len : Spc l.prog w K mg base 1 C.Watch (Str.ofString "__len__") 1 (k_Watch_len C) := ⟨_, a9, i9, n9, ok_Watch_len T F9 b9 ⟩
  have G_Watch_bool : Spc l.prog w K mg base 1 C.Watch (Str.ofString "__bool__") 1 (k_Watch_bool C) := ⟨_, a10, i10, n10, ok_Watch_bool T F10 b10 ⟩
  have G_Watch_contains : Spc l.prog w K mg base 1 C.Watch (Str.ofString "__contains__") 2 (k_Watch_contains C) := ⟨_, a11, i11, n11, ok_Watch_contains T F11 b11 ⟩
  have G_Watch_getitem : Spc l.prog w K mg base 2 C.Watch (Str.ofString "__getitem__") 2 (k_Watch_getitem C) := ⟨_, a12, i12, n12, ok_Watch_getitem T F12 b12 G_is_name⟩
  have G_Watch_setitem : Spc l.prog w K mg base 2 C.Watch (Str.ofString "__setitem__") 3 (k_Watch_setitem_2 C) := ⟨_, a13, i13, n13, ok_Watch_setitem T F13 b13 G_is_name⟩
  have G_Watch_setitem_x : SpcR l.prog w K mg base 2 C.Watch (Str.ofString "__setitem__") 3 (k_Watch_setitem_x C) := ⟨_, a13, i13, n13, ok_Watch_setitem_x T F13 b13 G_is_name⟩
  have G_law_mix : Fn0 l.prog w K mg base 1 (Str.ofString "_law_mix") 2 (k_law_mix C) := ok_law_mix T F14 (PySem.W.mg_of X G a14) b14 
  have G_law_cell : Fn0 l.prog w K mg base 2 (Str.ofString "_law_cell") 2 (k_law_cell C) := ok_law_cell T F15 (PySem.W.mg_of X G a15) b15 G_law_mix
  have G_law_row : Fn0 l.prog w K mg base 2 (Str.ofString "_law_row") 2 (k_law_row C) := ok_law_row T F16 (PySem.W.mg_of X G a16) b16 G_law_mix
  have G_law_names : Fn0 l.prog w K mg base 3 (Str.ofString "_law_names") 2 (k_law_names C) := ok_law_names T F17 (PySem.W.mg_of X G a17) b17 G_law_row
  have G_law_is_integer : Fn0 l.prog w K mg base 1 (Str.ofString "_law_is_integer") 1 (k_law_is_integer C) := ok_law_is_integer T F18 (PySem.W.mg_of X G a18) b18 
  have G_law_flag : Fn0 l.prog w K mg base 1 (Str.ofString "_law_flag") 2 (k_law_flag C) := ok_law_flag T F19 (PySem.W.mg_of X G a19) b19 
  have G_law_exact : Fn0 l.prog w K mg base 6 (Str.ofString "_law_exact") 2 (f_law_exact C 5) := ok_law_exact T F20 (PySem.W.mg_of X G a20) b20 G_law_is_integer 5
  have G_law_deep : Fn0 l.prog w K mg base 1 (Str.ofString "_law_deep") 1 (k_law_deep_2 C) := ok_law_deep T F21 (PySem.W.mg_of X G a21) b21 
  have G_law_thing : Fn0 l.prog w K mg base 2 (Str.ofString "_law_thing") 1 (k_law_thing_3 C) := ok_law_thing T F22 (PySem.W.mg_of X G a22) b22 G_law_deep
  have G_law_set : Fn0 l.prog w K mg base 4 (Str.ofString "_law_set") 3 (k_law_set C) := ok_law_set T F23 (PySem.W.mg_of X G a23) b23 G_Watch_setitem_x
  have G_law_right : Fn0 l.prog w K mg base 7 (Str.ofString "_law_right") 4 (k_law_right C) := ok_law_right T F24 (PySem.W.mg_of X G a24) b24 G_Watch_words G_Watch_sights G_law_exact G_Watch_len G_Watch_bool G_law_flag G_Watch_getitem G_Watch_contains
  refine (okL T F25 G_law_cell G_law_names E_Watch_init G_law_row G_law_thing G_law_set G_Watch_copy G_Watch_eq G_law_flag G_Watch_setitem G_law_right G_Watch_init).imp fun vs H Q E h => ?_
  obtain ⟨a, ns, rfl, hS, hl, k⟩ := h
  obtain ⟨st, e⟩ := p_law11 C ns hl
  exact law_end hS e k
end K11
open PySem PySem.W PyProof.Rows
set_option maxHeartbeats 0 in
theorem PySem.Challenge.cw_knownlate_k11_whole_items_of_a_watch_holds : PySem.Challenge.rw_knownlate_k11_whole_items_of_a_watch.Holds := by
  w_on; o_law; k_head; (case hw => w_witness2)
  k_fill
  refine L2.walk_of (l := PySem.Challenge.rw_knownlate_k11_whole_items_of_a_watch) (n := 63) (k := 8) (x := Str.ofString "_law_script") (CX := fun _ => L2.CX0) (sp := fun w => K11.spLaw _) rfl (by decide) rfl ⟨rfl, by decide, by decide⟩ (fun w h Y => PySem.W.kIn_of Y) ?F (fun _ _ a ns hl _ hS => ⟨a, ns, rfl, hS, hl, fun _ => rfl⟩) fun _ _ _ _ _ z => z
  case F =>
    intro w mg fa h KX G hmg
    refine' K11.all_mk KX G hmg ?m_Watch ?pg_Watch ?hd_Watch ?po_Watch ?sa_Watch ?mk_Watch ?kc_Watch ?m_BadWord ?sTh ?sTop ?sA_BadWord ?sB_BadWord ?sC_BadWord ?sD_BadWord ?sE_BadWord ?sF_BadWord ?sG_BadWord ?sH_BadWord ?sI_BadWord ?sJ_BadWord ?sK_BadWord ?sL_BadWord ?sM_BadWord ?sO_BadWord ?sP_BadWord ?xA_BadWord ?xB_BadWord ?xC_BadWord ?xD_BadWord ?xE_BadWord ?xm_BadWord_BadWord ?na_Watch_table ?ihn ?ihtk ?isq_Watch ?isf_Watch ?nr_Watch_NoneType ?nr_Watch_bool ?nr_Watch_int ?nr_Watch_str ?nr_Watch_tuple ?nr_Watch_list ?nr_Watch_dict ?ine_Watch ?iha_Watch ?ihm_Watch ?icl_Watch ?ity_Watch ?iy_Watch_NoneType ?iy_Watch_bool ?iy_Watch_int ?iy_Watch_str ?iy_Watch_tuple ?iy_Watch_list ?iy_Watch_dict ?a1 ?l1 ?c1 ?k1 ?a2 ?l2 ?c2 ?k2 ?a3 ?l3 ?c3 ?k3 ?a4 ?i4 ?l4 ?t4 ?c4 ?k4 ?a5 ?pa5 ?pb5 ?pc5 ?l5 ?c5 ?k5 ?a6 ?pa6 ?pb6 ?pc6 ?l6 ?c6 ?k6 ?a7 ?i7 ?l7 ?c7 ?k7 ?a8 ?i8 ?l8 ?c8 ?k8 ?a9 ?i9 ?n9 ?l9 ?c9 ?k9 ?a10 ?i10 ?n10 ?l10 ?c10 ?k10 ?a11 ?i11 ?n11 ?l11 ?c11 ?k11 ?a12 ?i12 ?n12 ?l12 ?c12 ?k12 ?a13 ?i13 ?n13 ?l13 ?c13 ?k13 ?a14 ?l14 ?c14 ?k14 ?a15 ?l15 ?c15 ?k15 ?a16 ?l16 ?c16 ?k16 ?a17 ?l17 ?c17 ?k17 ?a18 ?l18 ?c18 ?k18 ?a19 ?l19 ?c19 ?k19 ?a20 ?l20 ?c20 ?k20 ?a21 ?l21 ?c21 ?k21 ?a22 ?l22 ?c22 ?k22 ?a23 ?l23 ?c23 ?k23 ?a24 ?l24 ?c24 ?k24 ?a25 ?l25 ?c25 ?k25 ?z_bool ?z_dict ?z_int ?z_isinstance ?z_len ?z_list ?z_max ?z_min ?z_range ?z_set ?z_sorted ?z_str ?z_super ?z_tuple ?q_LETTERS ?q_MOST_LETTERS
    (case m_Watch => k_is)
    (case pg_Watch => k_is)
    (case hd_Watch => k_is)
    (case po_Watch => k_is)
    (case sa_Watch => k_is)
    (case mk_Watch => k_is)
    (case kc_Watch => k_is)
    (case m_BadWord => k_is)
    (case sTh => k_is)
    (case sTop => first | rfl | decide +kernel | k_is)
    (case sA_BadWord => k_is)
    (case sB_BadWord => first | rfl | decide +kernel | k_is)
    (case sC_BadWord => k_is)
    (case sD_BadWord => k_is)
    (case sE_BadWord => k_is)
    (case sF_BadWord => k_is)
    (case sG_BadWord => ks_is)
    (case sH_BadWord => k_is)
    (case sI_BadWord => k_is)
    (case sJ_BadWord => k_is)
    (case sK_BadWord => k_is)
    (case sL_BadWord => k_is)
    (case sM_BadWord => first | rfl | decide +kernel | k_is)
    (case sO_BadWord => first | rfl | decide +kernel | k_is)
    (case sP_BadWord => k_is)
    (case xA_BadWord => k_is)
    (case xB_BadWord => k_is)
    (case xC_BadWord => k_is)
    (case xD_BadWord => k_is)
    (case xE_BadWord => k_is)
    (case xm_BadWord_BadWord => kts_exm)
    (case na_Watch_table => k_is)
    (case ihn => k_is)
    (case ihtk => k_is)
    (case isq_Watch => k_is)
    (case isf_Watch => k_is)
    (case nr_Watch_NoneType => k_is)
    (case nr_Watch_bool => k_is)
    (case nr_Watch_int => k_is)
    (case nr_Watch_str => k_is)
    (case nr_Watch_tuple => k_is)
    (case nr_Watch_list => k_is)
    (case nr_Watch_dict => k_is)
    (case ine_Watch => k_is)
    (case iha_Watch => k_is)
    (case ihm_Watch => k_is)
    (case icl_Watch => k_is)
    (case ity_Watch => k_is)
    (case iy_Watch_NoneType => k_is)
    (case iy_Watch_bool => k_is)
    (case iy_Watch_int => k_is)
    (case iy_Watch_str => k_is)
    (case iy_Watch_tuple => k_is)
    (case iy_Watch_list => k_is)
    (case iy_Watch_dict => k_is)
    (case a1 => k_is)
    (case l1 => k_is)
    (case c1 => k_is)
    (case k1 => k_is)
    (case a2 => k_is)
    (case l2 => k_is)
    (case c2 => k_is)
    (case k2 => k_is)
    (case a3 => k_is)
    (case l3 => k_is)
    (case c3 => k_is)
    (case k3 => k_is)
    (case a4 => k_is)
    (case i4 => k_is)
    (case l4 => k_is)
    (case t4 => k_is)
    (case c4 => k_is)
    (case k4 => k_is)
    (case a5 => k_is)
    (case pa5 => k_is)
    (case pb5 => k_is)
    (case pc5 => k_is)
    (case l5 => k_is)
    (case c5 => k_is)
    (case k5 => k_is)
    (case a6 => k_is)
    (case pa6 => k_is)
    (case pb6 => k_is)
    (case pc6 => k_is)
    (case l6 => k_is)
    (case c6 => k_is)
    (case k6 => k_is)
    (case a7 => k_is)
    (case i7 => k_is)
    (case l7 => k_is)
    (case c7 => k_is)
    (case k7 => k_is)
    (case a8 => k_is)
    (case i8 => k_is)
    (case l8 => k_is)
    (case c8 => k_is)
    (case k8 => k_is)
    (case a9 => k_is)
    (case i9 => k_is)
    (case n9 => k_is)
    (case l9 => k_is)
    (case c9 => k_is)
    (case k9 => k_is)
    (case a10 => k_is)
    (case i10 => k_is)
    (case n10 => k_is)
    (case l10 => k_is)
    (case c10 => k_is)
    (case k10 => k_is)
    (case a11 => k_is)
    (case i11 => k_is)
    (case n11 => k_is)
    (case l11 => k_is)
    (case c11 => k_is)
    (case k11 => k_is)
    (case a12 => k_is)
    (case i12 => k_is)
    (case n12 => k_is)
    (case l12 => k_is)
    (case c12 => k_is)
    (case k12 => k_is)
    (case a13 => k_is)
    (case i13 => k_is)
    (case n13 => k_is)
    (case l13 => k_is)
    (case c13 => k_is)
    (case k13 => k_is)
    (case a14 => k_is)
    (case l14 => k_is)
    (case c14 => k_is)
    (case k14 => k_is)
    (case a15 => k_is)
    (case l15 => k_is)
    (case c15 => k_is)
    (case k15 => k_is)
    (case a16 => k_is)
    (case l16 => k_is)
    (case c16 => k_is)
    (case k16 => k_is)
    (case a17 => k_is)
    (case l17 => k_is)
    (case c17 => k_is)
    (case k17 => k_is)
    (case a18 => k_is)
    (case l18 => k_is)
    (case c18 => k_is)
    (case k18 => k_is)
    (case a19 => k_is)
    (case l19 => k_is)
    (case c19 => k_is)
    (case k19 => k_is)
    (case a20 => k_is)
    (case l20 => k_is)
    (case c20 => k_is)
    (case k20 => k_is)
    (case a21 => k_is)
    (case l21 => k_is)
    (case c21 => k_is)
    (case k21 => k_is)
    (case a22 => k_is)
    (case l22 => k_is)
    (case c22 => k_is)
    (case k22 => k_is)
    (case a23 => k_is)
    (case l23 => k_is)
    (case c23 => k_is)
    (case k23 => k_is)
    (case a24 => k_is)
    (case l24 => k_is)
    (case c24 => k_is)
    (case k24 => k_is)
    (case a25 => k_is)
    (case l25 => k_is)
    (case c25 => k_is)
    (case k25 => k_is)
    (case z_bool => k_is)
    (case z_dict => k_is)
    (case z_int => k_is)
    (case z_isinstance => k_is)
    (case z_len => k_is)
    (case z_list => k_is)
    (case z_max => k_is)
    (case z_min => k_is)
    (case z_range => k_is)
    (case z_set => k_is)
    (case z_sorted => k_is)
    (case z_str => k_is)
    (case z_super => k_is)
    (case z_tuple => k_is)
    (case q_LETTERS => k_is)
    (case q_MOST_LETTERS => k_is)
