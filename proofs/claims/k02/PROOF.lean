import PyProof.Rows.All
import Wide.All
import OpenK.AllK
import Wide.FinOn
import HandS.ForMost
import HandS.Codes
import HandS.Walk
import HandS.Exc
import HandS.TryOnly
import HandS.TryMany
import HandS.ExcOwn
import HandS.WordsExc
import HandS.Wide
import HandS.Style
import HandS.Deep
import HandS.IsInst
import HandS.TupAny
import HandS.Zip
import HandS.Defaults
import KE.KStateDown
import HandS.Head0
import HandS.Head1
import HandS.Head2
import HandS.HeadEnd
import HandS.HeadHook1
import HandS.HeadHook2
import PySem.Challenge.RW_workdaylogs_k02_promises_that_are_kept
set_option Elab.async false
set_option linter.all false
set_option maxRecDepth 100000
/-! Fl: defs as functions on data. D: values without a heap; SO: what may change (lists of one's own); a reading that follows such a function. -/
namespace Fl
open PySem PySem.Spec PyProof.Rows L2
/-- data: `ob k` is the k-th thing of the store -/
inductive D where
  | non | bl (b : Bool) | int (i : Int) | str (s : List Nat) | tup (ds : List D) | lst (ds : List D) | scr (ns : List Int) | ty (n : String) | ob (k : Nat)
/-- what may change -/
inductive SO where
  | dead | lst (ds : List D)
abbrev Sto := List SO
abbrev Sl := List (Option D)
/-- the signs of a text -/
def okS (s : List Nat) : Bool := s.all fun c => decide (c < 0x110000)
/-- a tuple that stands for good, or one of the module -/
def KT (K : PySem.W.Frag) (a : Addr) (vs : List V) : Prop := ∃ (o : Obj) (its : Array Value) (n : Nat), K.lookup a = some o ∧ o.cls = .type "tuple" ∧ o.data = .seq its n ∧ its.size ≤ sizeLine ∧ Vals vs its.toList
def TupAt (K : PySem.W.Frag) (M : Hp) (a : Addr) (vs : List V) : Prop := M a = some (.tup vs) ∨ KT K a vs
theorem TupAt.sq {K : PySem.W.Frag} {M : Hp} {a : Addr} {vs : List V} (h : TupAt K M a vs) : SqT K M a vs := h.elim (fun h => SqT.of h) .inr
mutual
/-- the value v is the data d, M being what stands for good -/
def RepF (K : PySem.W.Frag) (M : Hp) : D → V → Prop
  | .non, v => v = .non
  | .bl b, v => v = .bl b
  | .int i, v => v = .int i
  | .str s, v => v = .str ⟨s.toArray⟩ ∧ okS s = true
  | .tup ds, v => ∃ a vs, v = .ref a ∧ TupAt K M a vs ∧ RepL K M ds vs
  | .lst ds, v => ∃ a vs, v = .ref a ∧ M a = some (.lst vs) ∧ RepL K M ds vs
  | .scr ns, v => ∃ a, v = .ref a ∧ SqL K M a (ns.map V.int)
  | .ty n, v => v = .ty n
  | .ob _, _ => False
def RepL (K : PySem.W.Frag) (M : Hp) : List D → List V → Prop
  | [], vs => vs = []
  | d :: ds, vs => ∃ v r, vs = v :: r ∧ RepF K M d v ∧ RepL K M ds r
end
/-- ι: where the store's things stand -/
def Rep (K : PySem.W.Frag) (M : Hp) (ι : List Addr) : D → V → Prop
  | .ob k, v => ∃ a, v = .ref a ∧ ι[k]? = some a
  | d, v => RepF K M d v
def flat : D → Bool
  | .ob _ => false
  | _ => true
def flats (ds : List D) : Bool := ds.all flat
abbrev Ex (H H' : Hp) : Prop := ∀ a o, H a = some o → H' a = some o
theorem Ex.refl (H : Hp) : Ex H H := fun _ _ h => h
theorem Ex.trans {H H1 H2 : Hp} (a : Ex H H1) (b : Ex H1 H2) : Ex H H2 := fun x o h => b x o (a x o h)
theorem Ex.rd {H H' : Hp} {a : Addr} {u : HO} (e : Ex H H') (h : Rd H a u) : Rd H' a u := by
  rcases h with h | ⟨o, h⟩
  · exact .inl (e a _ h)
  · exact .inr ⟨o, e a _ h⟩
theorem Ex.l {K : PySem.W.Frag} {H H' : Hp} {a : Addr} {xs : List V} (e : Ex H H') (h : SqL K H a xs) : SqL K H' a xs := h.elim (fun h => .inl (Ex.rd e h)) .inr
theorem Ex.t {K : PySem.W.Frag} {H H' : Hp} {a : Addr} {xs : List V} (e : Ex H H') (h : SqT K H a xs) : SqT K H' a xs := h.elim (fun h => .inl (Ex.rd e h)) .inr
theorem Ex.new {H : Hp} {p : Addr} {o : HO} (h : H p = none) : Ex H (upd H p o) := fun a u e => by
  rw [upd_ne (ne_of_none e h)]; exact e
section
variable {K : PySem.W.Frag} {M M' : Hp} {ι ι' : List Addr}
mutual
theorem RepF.mono (m : Ex M M') : ∀ {d : D} {v : V}, RepF K M d v → RepF K M' d v
  | .non, v, h => by unfold RepF at h ⊢; exact h
  | .bl b, v, h => by unfold RepF at h ⊢; exact h
  | .int i, v, h => by unfold RepF at h ⊢; exact h
  | .str s, v, h => by unfold RepF at h ⊢; exact h
  | .ty n, v, h => by unfold RepF at h ⊢; exact h
  | .tup ds, v, h => by
    unfold RepF at h ⊢
    obtain ⟨a, vs, e, h1, h2⟩ := h
    exact ⟨a, vs, e, h1.elim (fun h => .inl (m _ _ h)) .inr, RepL.mono m h2⟩
  | .lst ds, v, h => by
    unfold RepF at h ⊢
    obtain ⟨a, vs, e, h1, h2⟩ := h
    exact ⟨a, vs, e, m _ _ h1, RepL.mono m h2⟩
  | .scr ns, v, h => by
    unfold RepF at h ⊢
    obtain ⟨a, e, h1⟩ := h
    exact ⟨a, e, Ex.l m h1⟩
  | .ob k, v, h => by unfold RepF at h; exact h.elim
theorem RepL.mono (m : Ex M M') : ∀ {ds : List D} {vs : List V}, RepL K M ds vs → RepL K M' ds vs
  | [], vs, h => by unfold RepL at h ⊢; exact h
  | d :: ds, vs, h => by
    unfold RepL at h ⊢
    obtain ⟨v, r, e, h1, h2⟩ := h
    exact ⟨v, r, e, RepF.mono m h1, RepL.mono m h2⟩
end
theorem Rep.of {d : D} {v : V} (h : RepF K M d v) : Rep K M ι d v := by
  cases d <;> first | exact h | (unfold RepF at h; exact h.elim)
theorem Rep.f {d : D} {v : V} (h : Rep K M ι d v) (f : flat d = true) : RepF K M d v := by
  cases d <;> first | exact h | cases f
theorem Rep.mono (m : Ex M M') (i : ∀ (k : Nat) (a : Addr), ι[k]? = some a → ι'[k]? = some a) {d : D} {v : V} (h : Rep K M ι d v) : Rep K M' ι' d v := by
  cases d with
  | ob k =>
    obtain ⟨a, e, h1⟩ := h
    exact ⟨a, e, i _ _ h1⟩
  | _ => exact Rep.of (RepF.mono m h)
theorem RepL.length : ∀ {ds : List D} {vs : List V}, RepL K M ds vs → vs.length = ds.length
  | [], vs, h => by unfold RepL at h; rw [h]; rfl
  | d :: ds, vs, h => by
    unfold RepL at h
    obtain ⟨v, r, rfl, _, h2⟩ := h
    simp [RepL.length h2]
theorem RepL.get : ∀ {ds : List D} {vs : List V} {i : Nat} {d : D}, RepL K M ds vs → ds[i]? = some d → ∃ v, vs[i]? = some v ∧ RepF K M d v
  | [], _, _, _, _, e => by simp at e
  | d :: ds, vs, 0, x, h, e => by
    unfold RepL at h
    obtain ⟨v, r, rfl, h1, _⟩ := h
    simp at e; subst e
    exact ⟨v, rfl, h1⟩
  | d :: ds, vs, i + 1, x, h, e => by
    unfold RepL at h
    obtain ⟨v, r, rfl, _, h2⟩ := h
    simp at e
    obtain ⟨u, h3, h4⟩ := RepL.get h2 e
    exact ⟨u, by simpa using h3, h4⟩
theorem RepL.getV {ds : List D} {vs : List V} {i : Nat} {v : V} (h : RepL K M ds vs) (e : vs[i]? = some v) : ∃ d, ds[i]? = some d ∧ RepF K M d v := by
  have hl := h.length
  have hi : i < ds.length := by rw [← hl]; exact (List.getElem?_eq_some_iff.mp e).1
  obtain ⟨u, h1, h2⟩ := h.get (List.getElem?_eq_getElem hi)
  rw [e] at h1; cases h1
  exact ⟨_, List.getElem?_eq_getElem hi, h2⟩
theorem RepL.nil : RepL K M [] [] := by unfold RepL; rfl
theorem RepL.cons {d : D} {ds : List D} {v : V} {vs : List V} (h : RepF K M d v) (r : RepL K M ds vs) : RepL K M (d :: ds) (v :: vs) := by
  unfold RepL; exact ⟨v, vs, rfl, h, r⟩
theorem RepL.uncons {d : D} {ds : List D} {vs : List V} (h : RepL K M (d :: ds) vs) : ∃ v r, vs = v :: r ∧ RepF K M d v ∧ RepL K M ds r := by
  unfold RepL at h; exact h
theorem RepL.unnil {vs : List V} (h : RepL K M [] vs) : vs = [] := by unfold RepL at h; exact h
theorem RepL.append : ∀ {ds es : List D} {vs us : List V}, RepL K M ds vs → RepL K M es us → RepL K M (ds ++ es) (vs ++ us)
  | [], _, _, _, h, g => by rw [h.unnil]; exact g
  | d :: ds, _, _, _, h, g => by
    obtain ⟨v, r, rfl, h1, h2⟩ := h.uncons
    exact .cons h1 (RepL.append h2 g)
theorem RepL.take : ∀ {ds : List D} {vs : List V} (n : Nat), RepL K M ds vs → RepL K M (ds.take n) (vs.take n)
  | _, _, 0, _ => .nil
  | [], _, _ + 1, h => by rw [h.unnil]; exact .nil
  | d :: ds, _, n + 1, h => by
    obtain ⟨v, r, rfl, h1, h2⟩ := h.uncons
    exact .cons h1 (RepL.take n h2)
theorem RepL.drop : ∀ {ds : List D} {vs : List V} (n : Nat), RepL K M ds vs → RepL K M (ds.drop n) (vs.drop n)
  | _, _, 0, h => h
  | [], _, _ + 1, h => by rw [h.unnil]; exact .nil
  | d :: ds, _, n + 1, h => by
    obtain ⟨v, r, rfl, h1, h2⟩ := h.uncons
    exact RepL.drop n h2
theorem RepL.set : ∀ {ds : List D} {vs : List V} {d : D} {v : V} (i : Nat), RepL K M ds vs → RepF K M d v → RepL K M (ds.set i d) (vs.set i v)
  | [], _, _, _, _, h, _ => by rw [h.unnil]; exact .nil
  | e :: ds, _, _, _, 0, h, g => by
    obtain ⟨v, r, rfl, _, h2⟩ := h.uncons
    exact .cons g h2
  | e :: ds, _, _, _, i + 1, h, g => by
    obtain ⟨v, r, rfl, h1, h2⟩ := h.uncons
    exact .cons h1 (RepL.set i h2 g)
end
/-! ### the state -/
def ObOk (K : PySem.W.Frag) (M : Hp) (H : Hp) (a : Addr) : SO → Prop
  | .dead => H a ≠ none
  | .lst ds => M a = none ∧ ∃ vs, H a = some (.lst vs) ∧ RepL K M ds vs
structure Conc (K : PySem.W.Frag) (M : Hp) (ι : List Addr) (s : Sto) (H : Hp) : Prop where
  sub : Ex M H
  len : ι.length = s.length
  nd : ι.Nodup
  obs : ∀ (k : Nat) (a : Addr) (o : SO), ι[k]? = some a → s[k]? = some o → ObOk K M H a o
/-- from one state to a later one -/
structure Step (M : Hp) (ι : List Addr) (H : Hp) (M' : Hp) (ι' : List Addr) (H' : Hp) : Prop where
  mm : Ex M M'
  ii : ∀ (k : Nat) (a : Addr), ι[k]? = some a → ι'[k]? = some a
  fr : ∀ a o, H a = some o → a ∉ ι → H' a = some o
  im : ∀ a, a ∈ ι' → a ∈ ι ∨ H a = none
  mn : ∀ a, M' a ≠ none → M a ≠ none ∨ a ∈ ι ∨ H a = none
theorem Step.refl {M : Hp} {ι : List Addr} {H : Hp} : Step M ι H M ι H := ⟨Ex.refl M, fun _ _ h => h, fun _ _ h _ => h, fun _ h => .inl h, fun _ h => .inl h⟩
theorem Step.trans {M M1 M2 : Hp} {ι ι1 ι2 : List Addr} {H H1 H2 : Hp} (a : Step M ι H M1 ι1 H1) (b : Step M1 ι1 H1 M2 ι2 H2) : Step M ι H M2 ι2 H2 := by
  have key : ∀ x, x ∉ ι → H1 x = none → H x = none := fun x h e => by
    cases q : H x with
    | none => rfl
    | some o => rw [a.fr x o q h] at e; cases e
  refine ⟨Ex.trans a.mm b.mm, fun k x h => b.ii k x (a.ii k x h), fun x o h n => b.fr x o (a.fr x o h n) fun z => ?_, fun x h => ?_, fun x h => ?_⟩
  · rcases a.im x z with w | w
    · exact n w
    · rw [h] at w; cases w
  · by_cases z : x ∈ ι
    · exact .inl z
    · rcases b.im x h with w | w
      · exact a.im x w
      · exact .inr (key x z w)
  · by_cases z : x ∈ ι
    · exact .inr (.inl z)
    · rcases b.mn x h with w | w | w
      · exact a.mn x w
      · exact (a.im x w).elim (fun q => .inr (.inl q)) fun q => .inr (.inr q)
      · exact .inr (.inr (key x z w))
theorem Rep.step {K : PySem.W.Frag} {M M' : Hp} {ι ι' : List Addr} {H H' : Hp} {d : D} {v : V} (t : Step M ι H M' ι' H') (h : Rep K M ι d v) : Rep K M' ι' d v := h.mono t.mm t.ii
theorem RepF.step {K : PySem.W.Frag} {M M' : Hp} {ι ι' : List Addr} {H H' : Hp} {d : D} {v : V} (t : Step M ι H M' ι' H') (h : RepF K M d v) : RepF K M' d v := h.mono t.mm
theorem RepL.step {K : PySem.W.Frag} {M M' : Hp} {ι ι' : List Addr} {H H' : Hp} {d : List D} {v : List V} (t : Step M ι H M' ι' H') (h : RepL K M d v) : RepL K M' d v := h.mono t.mm
theorem Conc.at {K : PySem.W.Frag} {M : Hp} {ι : List Addr} {s : Sto} {H : Hp} (C : Conc K M ι s H) {k : Nat} {o : SO} (h : s[k]? = some o) : ∃ a, ι[k]? = some a ∧ ObOk K M H a o := by
  have hk : k < ι.length := by rw [C.len]; exact (List.getElem?_eq_some_iff.mp h).1
  exact ⟨ι[k], List.getElem?_eq_getElem hk, C.obs k _ o (List.getElem?_eq_getElem hk) h⟩
theorem Conc.there {K : PySem.W.Frag} {M : Hp} {ι : List Addr} {s : Sto} {H : Hp} (C : Conc K M ι s H) {a : Addr} (h : a ∈ ι) : H a ≠ none := by
  obtain ⟨k, hk, rfl⟩ := List.getElem_of_mem h
  have hs : k < s.length := by rw [← C.len]; exact hk
  have q := C.obs k _ _ (List.getElem?_eq_getElem hk) (List.getElem?_eq_getElem hs)
  revert q
  cases s[k] with
  | dead => exact fun q => q
  | lst ds => rintro ⟨_, vs, q, _⟩; rw [q]; simp
theorem Conc.fresh {K : PySem.W.Frag} {M : Hp} {ι : List Addr} {s : Sto} {H : Hp} (C : Conc K M ι s H) {p : Addr} (h : H p = none) : M p = none ∧ p ∉ ι := by
  constructor
  · cases q : M p with
    | none => rfl
    | some o => rw [C.sub p o q] at h; cases h
  · exact fun z => C.there z h
/-- an object kept when the heap changes elsewhere -/
theorem ObOk.keep {K : PySem.W.Frag} {M M' : Hp} {H H' : Hp} {a : Addr} {o : SO} (h : ObOk K M H a o) (m : Ex M M') (e : ∀ u, H a = some u → H' a = some u) (n : M a = none → M' a = none) : ObOk K M' H' a o := by
  cases o with
  | dead =>
    show H' a ≠ none
    have h' : H a ≠ none := h
    cases q : H a with
    | none => exact absurd q h'
    | some u => rw [e u q]; simp
  | lst ds =>
    obtain ⟨h1, vs, h2, h3⟩ := h
    exact ⟨n h1, vs, e _ h2, h3.mono m⟩
/-- something new that stands for good -/
theorem Conc.laid {K : PySem.W.Frag} {M : Hp} {ι : List Addr} {s : Sto} {H : Hp} (C : Conc K M ι s H) {p : Addr} {o : HO} (h : H p = none) : Conc K (upd M p o) ι s (upd H p o) ∧ Step M ι H (upd M p o) ι (upd H p o) := by
  obtain ⟨hM, hι⟩ := C.fresh h
  constructor
  · refine ⟨fun a u e => ?_, C.len, C.nd, fun k a u e1 e2 => ?_⟩
    · by_cases q : a = p
      · subst q; rw [upd_same] at e ⊢; exact e
      · rw [upd_ne q] at e ⊢; exact C.sub a u e
    · have ne : a ≠ p := fun z => hι (z ▸ List.mem_of_getElem? e1)
      exact (C.obs k a u e1 e2).keep (Ex.new hM) (fun u q => by rw [upd_ne ne]; exact q) (fun q => by rw [upd_ne ne]; exact q)
  · refine ⟨Ex.new hM, fun _ _ h => h, fun a u e _ => by rw [upd_ne (ne_of_none e h)]; exact e, fun _ h => .inl h, fun a e => ?_⟩
    by_cases q : a = p
    · subst q; exact .inr (.inr h)
    · rw [upd_ne q] at e; exact .inl e
/-- something new on the way: it belongs to nobody yet -/
theorem Conc.over {K : PySem.W.Frag} {M : Hp} {ι : List Addr} {s : Sto} {H : Hp} (C : Conc K M ι s H) {p : Addr} {o : HO} (h : H p = none) : Conc K M ι s (upd H p o) ∧ Step M ι H M ι (upd H p o) := by
  obtain ⟨hM, hι⟩ := C.fresh h
  constructor
  · refine ⟨Ex.trans C.sub (Ex.new h), C.len, C.nd, fun k a u e1 e2 => ?_⟩
    have ne : a ≠ p := fun z => hι (z ▸ List.mem_of_getElem? e1)
    exact (C.obs k a u e1 e2).keep (Ex.refl M) (fun u q => by rw [upd_ne ne]; exact q) (fun q => q)
  · exact ⟨Ex.refl M, fun _ _ h => h, fun a u e _ => by rw [upd_ne (ne_of_none e h)]; exact e, fun _ h => .inl h, fun a e => .inl e⟩
/-- what belongs to nobody changes -/
theorem Conc.own {K : PySem.W.Frag} {M : Hp} {ι : List Addr} {s : Sto} {H : Hp} (C : Conc K M ι s H) {p : Addr} {o : HO} (hM : M p = none) (hι : p ∉ ι) : Conc K M ι s (upd H p o) := by
  refine ⟨fun a u e => ?_, C.len, C.nd, fun k a u e1 e2 => ?_⟩
  · by_cases q : a = p
    · subst q; rw [hM] at e; cases e
    · rw [upd_ne q]; exact C.sub a u e
  · have ne : a ≠ p := fun z => hι (z ▸ List.mem_of_getElem? e1)
    exact (C.obs k a u e1 e2).keep (Ex.refl M) (fun u q => by rw [upd_ne ne]; exact q) (fun q => q)
/-- what belongs to nobody now stands for good -/
theorem Conc.freeze {K : PySem.W.Frag} {M : Hp} {ι : List Addr} {s : Sto} {H : Hp} (C : Conc K M ι s H) {p : Addr} {o : HO} (hM : M p = none) (hι : p ∉ ι) (hH : H p = some o) : Conc K (upd M p o) ι s H := by
  refine ⟨fun a u e => ?_, C.len, C.nd, fun k a u e1 e2 => ?_⟩
  · by_cases q : a = p
    · subst q; rw [upd_same] at e; cases e; exact hH
    · rw [upd_ne q] at e; exact C.sub a u e
  · have ne : a ≠ p := fun z => hι (z ▸ List.mem_of_getElem? e1)
    exact (C.obs k a u e1 e2).keep (Ex.new hM) (fun u q => q) (fun q => by rw [upd_ne ne]; exact q)
/-- what belongs to nobody joins the store -/
theorem Conc.join {K : PySem.W.Frag} {M : Hp} {ι : List Addr} {s : Sto} {H : Hp} (C : Conc K M ι s H) {p : Addr} {u : SO} (hι : p ∉ ι) (hu : ObOk K M H p u) : Conc K M (ι ++ [p]) (s ++ [u]) H := by
  refine ⟨C.sub, by simp [C.len], ?_, fun k a o e1 e2 => ?_⟩
  · rw [List.nodup_append]
    refine ⟨C.nd, by simp, fun a ha b hb => ?_⟩
    obtain rfl : b = p := by simpa using hb
    exact fun z => hι (z ▸ ha)
  · by_cases hk : k < s.length
    · rw [List.getElem?_append_left hk] at e2
      rw [List.getElem?_append_left (by rw [C.len]; exact hk)] at e1
      exact (C.obs k a o e1 e2).keep (Ex.refl M) (fun _ h => h) (fun h => h)
    · have hk2 : k = s.length := by
        have := (List.getElem?_eq_some_iff.mp e2).1
        simp at this; omega
      subst hk2
      simp at e2
      rw [← C.len] at e1
      simp at e1
      subst e1 e2
      exact hu
theorem ii_app {ι : List Addr} {p : Addr} : ∀ (k : Nat) (a : Addr), ι[k]? = some a → (ι ++ [p])[k]? = some a := fun k a h => by
    rw [List.getElem?_append_left (List.getElem?_eq_some_iff.mp h).1]; exact h
/-- a thing of the store changes -/
theorem Conc.put {K : PySem.W.Frag} {M : Hp} {ι : List Addr} {s : Sto} {H : Hp} (C : Conc K M ι s H) {k : Nat} {a : Addr} {o : HO} {u : SO} (hk : ι[k]? = some a) (hM : M a = none) (hu : ObOk K M (upd H a o) a u) : Conc K M ι (s.set k u) (upd H a o) ∧ Step M ι H M ι (upd H a o) := by
  constructor
  · refine ⟨fun b v e => ?_, by rw [List.length_set]; exact C.len, C.nd, fun j b v e1 e2 => ?_⟩
    · by_cases q : b = a
      · subst q; rw [hM] at e; cases e
      · rw [upd_ne q]; exact C.sub b v e
    · by_cases hj : j = k
      · subst hj
        rw [hk] at e1; cases e1
        have hl : j < s.length := by have := (List.getElem?_eq_some_iff.mp hk).1; rw [C.len] at this; exact this
        rw [List.getElem?_set_self hl] at e2; cases e2
        exact hu
      · rw [List.getElem?_set_ne (Ne.symm hj)] at e2
        have ne : b ≠ a := by
          rintro rfl
          obtain ⟨h1, q1⟩ := List.getElem?_eq_some_iff.mp e1
          obtain ⟨h2, q2⟩ := List.getElem?_eq_some_iff.mp hk
          exact hj ((List.getElem_inj C.nd).mp (q1.trans q2.symm))
        exact (C.obs j b v e1 e2).keep (Ex.refl M) (fun u q => by rw [upd_ne ne]; exact q) (fun q => q)
  · refine ⟨Ex.refl M, fun _ _ h => h, fun b v e n => ?_, fun _ h => .inl h, fun b e => .inl e⟩
    have ne : b ≠ a := fun z => n (z ▸ List.mem_of_getElem? hk)
    rw [upd_ne ne]; exact e
/-- the store's last things forgotten -/
theorem Conc.take {K : PySem.W.Frag} {M : Hp} {ι : List Addr} {s : Sto} {H : Hp} (C : Conc K M ι s H) (n : Nat) : Conc K M (ι.take n) (s.take n) H := by
  refine ⟨C.sub, by simp [C.len], List.Nodup.sublist (List.take_sublist n ι) C.nd, fun k a o e1 e2 => ?_⟩
  have hk : k < n := by
    have := (List.getElem?_eq_some_iff.mp e1).1
    simp at this; omega
  rw [List.getElem?_take_of_lt hk] at e1 e2
  exact C.obs k a o e1 e2
end Fl
set_option Elab.async false
set_option linter.all false
set_option maxRecDepth 100000
namespace Fl
open PySem PySem.Spec PyProof.Rows L2
/-! ### what comes of it -/
inductive O (α : Type) where
  | stuck | val (a : α) (s : Sto) | exc (c : Nat) (s : Sto)
def O.bind {α β : Type} : O α → (α → Sto → O β) → O β
  | .stuck, _ => .stuck
  | .val a s, f => f a s
  | .exc c s, _ => .exc c s
@[simp] theorem O.bind_stuck {α β : Type} {f : α → Sto → O β} : (O.stuck : O α).bind f = .stuck := rfl
@[simp] theorem O.bind_val {α β : Type} {f : α → Sto → O β} {a : α} {s : Sto} : (O.val a s).bind f = f a s := rfl
@[simp] theorem O.bind_exc {α β : Type} {f : α → Sto → O β} {c : Nat} {s : Sto} : (O.exc c s : O α).bind f = .exc c s := rfl
inductive OS where
  | stuck | nx (δ : Sl) (s : Sto) | bk (δ : Sl) (s : Sto) | ct (δ : Sl) (s : Sto) | rt (d : D) (s : Sto) | exc (c : Nat) (δ : Sl) (s : Sto)
def O.go {α : Type} (o : O α) (δ : Sl) (k : α → Sto → OS) : OS := match o with
  | .stuck => .stuck
  | .val a s => k a s
  | .exc c s => .exc c δ s
@[simp] theorem O.go_stuck {α : Type} {δ : Sl} {f : α → Sto → OS} : (O.stuck : O α).go δ f = .stuck := rfl
@[simp] theorem O.go_val {α : Type} {δ : Sl} {f : α → Sto → OS} {a : α} {s : Sto} : (O.val a s).go δ f = f a s := rfl
@[simp] theorem O.go_exc {α : Type} {δ : Sl} {f : α → Sto → OS} {c : Nat} {s : Sto} : (O.exc c s : O α).go δ f = .exc c δ s := rfl
def OS.then (o : OS) (k : Sl → Sto → OS) : OS := match o with
  | .nx δ s => k δ s
  | o => o
@[simp] theorem OS.then_nx {k : Sl → Sto → OS} {δ : Sl} {s : Sto} : (OS.nx δ s).then k = k δ s := rfl
@[simp] theorem OS.then_stuck {k : Sl → Sto → OS} : OS.stuck.then k = .stuck := rfl
@[simp] theorem OS.then_bk {k : Sl → Sto → OS} {δ : Sl} {s : Sto} : (OS.bk δ s).then k = .bk δ s := rfl
@[simp] theorem OS.then_ct {k : Sl → Sto → OS} {δ : Sl} {s : Sto} : (OS.ct δ s).then k = .ct δ s := rfl
@[simp] theorem OS.then_rt {k : Sl → Sto → OS} {d : D} {s : Sto} : (OS.rt d s).then k = .rt d s := rfl
@[simp] theorem OS.then_exc {k : Sl → Sto → OS} {c : Nat} {δ : Sl} {s : Sto} : (OS.exc c δ s).then k = .exc c δ s := rfl
abbrev EF := Sl → Sto → O D
abbrev AF := Sl → Sto → O (List D)
abbrev BF := Sl → Sto → O Bool
abbrev SF := Sl → Sto → OS
abbrev GF := D → Sl → Sto → O Sl
abbrev FF := List D → Sto → O D
/-! ### what a reading owes -/
section
variable {K : PySem.W.Frag} {α β γ ζ : Type} {cl : Nat → Value}
def RepS (K : PySem.W.Frag) (M : Hp) (ι : List Addr) (δ : Sl) (σ : L2.St) : Prop := σ.length = δ.length ∧ ∀ (i : Nat) (d : D), δ[i]? = some (some d) → ∃ v, σ[i]? = some (some v) ∧ Rep K M ι d v
theorem RepS.step {M M' : Hp} {ι ι' : List Addr} {H H' : Hp} {δ : Sl} {σ : L2.St} (t : Step M ι H M' ι' H') (h : RepS K M ι δ σ) : RepS K M' ι' δ σ := ⟨h.1, fun i d e => by
  obtain ⟨v, h1, h2⟩ := h.2 i d e
  exact ⟨v, h1, h2.step t⟩⟩
theorem RepS.set {M : Hp} {ι : List Addr} {δ : Sl} {σ : L2.St} {d : D} {v : V} (h : RepS K M ι δ σ) (r : Rep K M ι d v) (i : Nat) : RepS K M ι (δ.set i (some d)) (σ.set i (some v)) := by
  refine ⟨by simp [h.1], fun j e q => ?_⟩
  by_cases hj : j = i
  · subst hj
    by_cases hl : j < δ.length
    · rw [List.getElem?_set_self hl] at q; cases q
      exact ⟨v, List.getElem?_set_self (by rw [h.1]; exact hl), r⟩
    · rw [List.getElem?_eq_none (by simpa using hl)] at q; cases q
  · rw [List.getElem?_set_ne (Ne.symm hj)] at q ⊢
    exact h.2 j e q
abbrev Car (α β : Type) := Hp → List Addr → α → β → Prop
def Post (K : PySem.W.Frag) (C : Car α β) (Wx : Nat → Hp → Prop) (M : Hp) (ι : List Addr) (H : Hp) : O α → (β → Hp → Prop) → Prop
  | .stuck, _ => False
  | .val a s, Q => ∀ M' ι' H' b, Step M ι H M' ι' H' → Conc K M' ι' s H' → C M' ι' a b → Q b H'
  | .exc c s, _ => ∀ M' ι' H', Step M ι H M' ι' H' → Conc K M' ι' s H' → Wx c H'
theorem Post.now {C : Car α β} {Wx : Nat → Hp → Prop} {M : Hp} {ι : List Addr} {H : Hp} {a : α} {b : β} {s : Sto} {Q : β → Hp → Prop} (h : Post K C Wx M ι H (.val a s) Q) (c : Conc K M ι s H) (r : C M ι a b) : Q b H := h M ι H b Step.refl c r
theorem Post.mono {C : Car α β} {Wx : Nat → Hp → Prop} {M : Hp} {ι : List Addr} {H : Hp} {o : O α} {Q Q' : β → Hp → Prop} (h : Post K C Wx M ι H o Q) (q : ∀ b H', Q b H' → Q' b H') : Post K C Wx M ι H o Q' := by
  cases o with
  | stuck => exact h
  | val a s => exact fun M' ι' H' b t c r => q b H' (h M' ι' H' b t c r)
  | exc c s => exact h
theorem Post.step {C : Car α β} {Wx : Nat → Hp → Prop} {M M1 : Hp} {ι ι1 : List Addr} {H H1 : Hp} {o : O α} {Q : β → Hp → Prop} (h : Post K C Wx M ι H o Q) (t : Step M ι H M1 ι1 H1) : Post K C Wx M1 ι1 H1 o Q := by
  cases o with
  | stuck => exact h
  | val a s => exact fun M' ι' H' b t' c r => h M' ι' H' b (t.trans t') c r
  | exc c s => exact fun M' ι' H' t' q => h M' ι' H' (t.trans t') q
/-- what stands behind the first of two -/
structure Mid (K : PySem.W.Frag) (C : Car α β) (C2 : Car γ ζ) (Wx : Nat → Hp → Prop) (M : Hp) (ι : List Addr) (H : Hp) (k : α → Sto → O γ) (Q : ζ → Hp → Prop) (b : β) (H' : Hp) : Prop where
  ex : ∃ M' ι' a s', Step M ι H M' ι' H' ∧ Conc K M' ι' s' H' ∧ C M' ι' a b ∧ Post K C2 Wx M' ι' H' (k a s') Q
theorem Post.bind (C : Car α β) {C2 : Car γ ζ} {Wx : Nat → Hp → Prop} {M : Hp} {ι : List Addr} {H : Hp} {o : O α} {k : α → Sto → O γ} {Q : ζ → Hp → Prop} (h : Post K C2 Wx M ι H (o.bind k) Q) : Post K C Wx M ι H o (Mid K C C2 Wx M ι H k Q) := by
  cases o with
  | stuck => exact h
  | val a s => exact fun M' ι' H' b t c r => ⟨M', ι', a, s, t, c, r, Post.step h t⟩
  | exc c s => exact h
abbrev CD (K : PySem.W.Frag) : Car D V := Rep K
abbrev CL (K : PySem.W.Frag) (f : D → V → Prop) : Car (List D) (List V) := fun _ _ _ _ => True
inductive Reps (K : PySem.W.Frag) (M : Hp) (ι : List Addr) : List D → List V → Prop
  | nil : Reps K M ι [] []
  | cons {d : D} {ds : List D} {v : V} {vs : List V} : Rep K M ι d v → Reps K M ι ds vs → Reps K M ι (d :: ds) (v :: vs)
theorem Reps.step {M M' : Hp} {ι ι' : List Addr} {H H' : Hp} {ds : List D} {vs : List V} (t : Step M ι H M' ι' H') (h : Reps K M ι ds vs) : Reps K M' ι' ds vs := by
  induction h with
  | nil => exact .nil
  | cons a _ ih => exact .cons (a.step t) ih
theorem Reps.length {M : Hp} {ι : List Addr} {ds : List D} {vs : List V} (h : Reps K M ι ds vs) : vs.length = ds.length := by
  induction h with
  | nil => rfl
  | cons _ _ ih => simp [ih]
theorem Reps.flat {M : Hp} {ι : List Addr} {ds : List D} {vs : List V} (h : Reps K M ι ds vs) (f : flats ds = true) : RepL K M ds vs := by
  induction h with
  | nil => exact RepL.nil
  | cons a _ ih =>
    simp [flats] at f
    exact .cons (a.f f.1) (ih (by simp [flats]; exact f.2))
theorem Reps.of {M : Hp} {ι : List Addr} : ∀ {ds : List D} {vs : List V}, RepL K M ds vs → Reps K M ι ds vs
  | [], _, h => by rw [h.unnil]; exact .nil
  | d :: ds, _, h => by
    obtain ⟨v, r, rfl, h1, h2⟩ := h.uncons
    exact .cons (Rep.of h1) (Reps.of h2)
abbrev CB : Car Bool Bool := fun _ _ a b => b = a
/-- the store's and the slots' data, and what f makes of them -/
def At (K : PySem.W.Frag) (C : Car α β) (Wx : Nat → Hp → Prop) (f : Sl → Sto → O α) (σ : L2.St) (H : Hp) (Q : β → Hp → Prop) : Prop :=
  ∃ M ι δ s, Conc K M ι s H ∧ RepS K M ι δ σ ∧ Post K C Wx M ι H (f δ s) Q
abbrev wx (cl : Nat → Value) (W : WX) (σ : L2.St) : Nat → Hp → Prop := fun c H => W (cl c) none σ H
def rdE (K : PySem.W.Frag) (cl : Nat → Value) (W : WX) (f : EF) : TE := fun σ H Q => At K (Rep K) (wx cl W σ) f σ H Q
def rdA (K : PySem.W.Frag) (cl : Nat → Value) (W : WX) (f : AF) : TA := fun σ H Q => At K (Reps K) (wx cl W σ) f σ H Q
def rdT (K : PySem.W.Frag) (cl : Nat → Value) (W : WX) (f : BF) : TT := fun σ H Q => At K CB (wx cl W σ) f σ H Q
def rdG (K : PySem.W.Frag) (g : GF) : TG := fun v σ H Q => ∃ M ι δ s d, Conc K M ι s H ∧ RepS K M ι δ σ ∧ Rep K M ι d v ∧ Post K (RepS K) (fun _ _ => False) M ι H (g d δ s) Q
def PostS (K : PySem.W.Frag) (cl : Nat → Value) (W : WX) (D : Ends) (M : Hp) (ι : List Addr) (H : Hp) : OS → Prop
  | .stuck => False
  | .nx δ s => ∀ M' ι' H' σ', Step M ι H M' ι' H' → Conc K M' ι' s H' → RepS K M' ι' δ σ' → D.nx σ' H'
  | .bk δ s => ∀ M' ι' H' σ', Step M ι H M' ι' H' → Conc K M' ι' s H' → RepS K M' ι' δ σ' → D.bk σ' H'
  | .ct δ s => ∀ M' ι' H' σ', Step M ι H M' ι' H' → Conc K M' ι' s H' → RepS K M' ι' δ σ' → D.ct σ' H'
  | .rt d s => ∀ M' ι' H' v, Step M ι H M' ι' H' → Conc K M' ι' s H' → Rep K M' ι' d v → D.rt v H'
  | .exc c δ s => ∀ M' ι' H' σ', Step M ι H M' ι' H' → Conc K M' ι' s H' → RepS K M' ι' δ σ' → W (cl c) none σ' H'
def rdS (K : PySem.W.Frag) (cl : Nat → Value) (W : WX) (f : SF) : TS := fun D σ H => ∃ M ι δ s, Conc K M ι s H ∧ RepS K M ι δ σ ∧ PostS K cl W D M ι H (f δ s)
theorem PostS.step {W : WX} {D : Ends} {M M1 : Hp} {ι ι1 : List Addr} {H H1 : Hp} {o : OS} (h : PostS K cl W D M ι H o) (t : Step M ι H M1 ι1 H1) : PostS K cl W D M1 ι1 H1 o := by
  cases o with
  | stuck => exact h
  | nx δ s => exact fun M' ι' H' σ' t' c r => h M' ι' H' σ' (t.trans t') c r
  | bk δ s => exact fun M' ι' H' σ' t' c r => h M' ι' H' σ' (t.trans t') c r
  | ct δ s => exact fun M' ι' H' σ' t' c r => h M' ι' H' σ' (t.trans t') c r
  | rt d s => exact fun M' ι' H' σ' t' c r => h M' ι' H' σ' (t.trans t') c r
  | exc c δ s => exact fun M' ι' H' σ' t' c r => h M' ι' H' σ' (t.trans t') c r
/-- a value, then a statement's rest -/
structure MidS (K : PySem.W.Frag) (cl : Nat → Value) (C : Car α β) (W : WX) (D : Ends) (M : Hp) (ι : List Addr) (H : Hp) (k : α → Sto → OS) (b : β) (H' : Hp) : Prop where
  ex : ∃ M' ι' a s', Step M ι H M' ι' H' ∧ Conc K M' ι' s' H' ∧ C M' ι' a b ∧ PostS K cl W D M' ι' H' (k a s')
theorem PostS.go (C : Car α β) {W : WX} {D : Ends} {M : Hp} {ι : List Addr} {H : Hp} {o : O α} {δ : Sl} {σ : L2.St} {k : α → Sto → OS} (S : RepS K M ι δ σ) (h : PostS K cl W D M ι H (o.go δ k)) : Post K C (wx cl W σ) M ι H o (MidS K cl C W D M ι H k) := by
  cases o with
  | stuck => exact h
  | val a s => exact fun M' ι' H' b t c r => ⟨M', ι', a, s, t, c, r, PostS.step h t⟩
  | exc c s => exact fun M' ι' H' t c => h M' ι' H' σ t c (S.step t)
end
/-! ### judgements -/
section
variable {X : Cx} {cl : Nat → Value} {W : WX}
abbrev JE (X : Cx) (cl : Nat → Value) (W : WX) (e : Expr) (f : EF) : Prop := PE X e (rdE X.K cl W f)
abbrev JA (X : Cx) (cl : Nat → Value) (W : WX) (es : List Expr) (f : AF) : Prop := PA X es (rdA X.K cl W f)
abbrev JT (X : Cx) (cl : Nat → Value) (W : WX) (e : Expr) (f : BF) : Prop := PT X e (rdT X.K cl W f)
abbrev JW (X : Cx) (cl : Nat → Value) (W : WX) (e : Expr) (f : BF) : Prop := PW X e (rdT X.K cl W f)
abbrev JG (X : Cx) (e : Expr) (g : GF) : Prop := PG X e (rdG X.K g)
abbrev JS (X : Cx) (cl : Nat → Value) (W : WX) (st : Stmt) (f : SF) : Prop := PS X st (rdS X.K cl W f)
abbrev JSs (X : Cx) (cl : Nat → Value) (W : WX) (st : List Stmt) (f : SF) : Prop := PSs X st (rdS X.K cl W f)
theorem _root_.L2.PE.imp {e : Expr} {t t' : TE} (h : PE X e t) (i : ∀ σ H Q, t' σ H Q → t σ H Q) : PE X e t' := ⟨fun pins s σ H Q I q => h.run pins s σ H Q I (i σ H Q q)⟩
theorem _root_.L2.PT.imp {e : Expr} {t t' : TT} (h : PT X e t) (i : ∀ σ H Q, t' σ H Q → t σ H Q) : PT X e t' := ⟨fun pins s σ H Q I q => h.run pins s σ H Q I (i σ H Q q)⟩
theorem _root_.L2.PW.imp {e : Expr} {t t' : TT} (h : PW X e t) (i : ∀ σ H Q, t' σ H Q → t σ H Q) : PW X e t' := ⟨fun wh pins s σ H Q I q => h.run wh pins s σ H Q I (i σ H Q q)⟩
theorem _root_.L2.PA.imp {e : List Expr} {t t' : TA} (h : PA X e t) (i : ∀ σ H Q, t' σ H Q → t σ H Q) : PA X e t' := ⟨fun pos pins s σ H Q I q => h.run pos pins s σ H Q I (i σ H Q q)⟩
theorem _root_.L2.PG.imp {e : Expr} {t t' : TG} (h : PG X e t) (i : ∀ v σ H Q, t' v σ H Q → t v σ H Q) : PG X e t' := ⟨fun pins s σ H v u Q I r q => h.run pins s σ H v u Q I r (i v σ H Q q)⟩
theorem _root_.L2.PS.imp {e : Stmt} {t t' : TS} (h : PS X e t) (i : ∀ D σ H, t' D σ H → t D σ H) : PS X e t' := ⟨fun pins s σ H D I q => h.run pins s σ H D I (i D σ H q)⟩
theorem _root_.L2.PSs.imp {e : List Stmt} {t t' : TS} (h : PSs X e t) (i : ∀ D σ H, t' D σ H → t D σ H) : PSs X e t' := ⟨fun pins s σ H D I q => h.run pins s σ H D I (i D σ H q)⟩
/-! ### names, constants -/
def varF (i : Nat) : EF := fun δ s => match δ[i]? with
  | some (some d) => .val d s
  | _ => .stuck
theorem je_var (i : Nat) {x : Str} {pos : Pos} (hN : X.N[i]? = some x := by rfl) (hv : Vis X.env.scope x := by first | exact Or.inl rfl | exact Or.inr (Or.inl rfl) | exact Or.inr (Or.inr rfl)) (hd : (x == ("__debug__" : Str)) = false := by decide)
    (hcd : (x == ("__classdict__" : Str)) = false := by decide) : JE X cl W (.Name x pos) (varF i) := (pe_var hN hv hd hcd).imp fun σ H Q h => by
  obtain ⟨M, ι, δ, s, C, S, P⟩ := h
  unfold varF at P
  split at P
  · rename_i d e
    obtain ⟨v, h1, h2⟩ := S.2 i d e
    exact ⟨v, h1, P.now C h2⟩
  · exact P.elim
def cF (d : D) : EF := fun _ s => .val d s
theorem je_cst {e : Expr} {v : V} {d : D} (h : PE X e (tC v)) (r : ∀ M ι, Rep X.K M ι d v) : JE X cl W e (cF d) := h.imp fun σ H Q h => by
  obtain ⟨M, ι, δ, s, C, S, P⟩ := h
  exact Post.now (C := Rep X.K) P C (r M ι)
theorem je_int {i : Int} {j pos} : JE X cl W (.Constant (.int i) j pos) (cF (.int i)) := je_cst pe_int fun _ _ => Rep.of (by unfold RepF; rfl)
theorem je_bl {b : Bool} {j pos} : JE X cl W (.Constant (.bool b) j pos) (cF (.bl b)) := je_cst pe_bl fun _ _ => Rep.of (by unfold RepF; rfl)
theorem je_non {j pos} : JE X cl W (.Constant .none j pos) (cF .non) := je_cst pe_non fun _ _ => Rep.of (by unfold RepF; rfl)
theorem je_str (cs : List Nat) {x : Str} {j pos} (h : x = ⟨cs.toArray⟩ := by decide +kernel) (h2 : okS cs = true := by decide) : JE X cl W (.Constant (.str x) j pos) (cF (.str cs)) := je_cst pe_str fun _ _ => Rep.of (by unfold RepF; exact ⟨by rw [h], h2⟩)
/-- a module's constant -/
theorem je_glob {x : Str} {d : D} {v : V} {u : Value} {pos : Pos} (hg : Gl X x) (hm : X.mg x = some u) (r : RelV v u) (hr : ∀ M ι, Rep X.K M ι d v) (hd : (x == ("__debug__" : Str)) = false := by decide) : JE X cl W (.Name x pos) (cF d) := je_cst (pe_glob hg hm r hd) hr
/-- a built-in class as a value -/
theorem je_ty {x : Str} {T : String} {pos : Pos} (hg : Gl X x) (hm : X.mg x = none) (hv : bootBuiltins x = some (.type T)) (hn : x ≠ "__name__" := by decide) (hd : (x == ("__debug__" : Str)) = false := by decide) : JE X cl W (.Name x pos) (cF (.ty T)) :=
  je_cst (pe_bltn (v := .ty T) hg hm hv rfl hn hd) fun _ _ => Rep.of (by unfold RepF; rfl)
/-! ### operations on values -/
abbrev Op1 := Sto → D → O D
abbrev Op2 := Sto → D → D → O D
def Ok2 (K : PySem.W.Frag) (r : R2) (g : Op2) : Prop := ∀ (Wx : Nat → Hp → Prop) (M : Hp) (ι : List Addr) (s : Sto) (H : Hp) (x y : D) (u v : V) (Q : VK), Conc K M ι s H → Rep K M ι x u → Rep K M ι y v → Post K (Rep K) Wx M ι H (g s x y) Q → r u v H Q
def Ok1 (K : PySem.W.Frag) (r : V → Hp → VK → Prop) (g : Op1) : Prop := ∀ (Wx : Nat → Hp → Prop) (M : Hp) (ι : List Addr) (s : Sto) (H : Hp) (x : D) (u : V) (Q : VK), Conc K M ι s H → Rep K M ι x u → Post K (Rep K) Wx M ι H (g s x) Q → r u H Q
def OkN (K : PySem.W.Frag) (r : List V → Hp → VK → Prop) (g : Sto → List D → O D) : Prop := ∀ (Wx : Nat → Hp → Prop) (M : Hp) (ι : List Addr) (s : Sto) (H : Hp) (xs : List D) (us : List V) (Q : VK), Conc K M ι s H → Reps K M ι xs us → Post K (Rep K) Wx M ι H (g s xs) Q → r us H Q
def bin (g : Op2) (fa fb : EF) : EF := fun δ s => (fa δ s).bind fun x s1 => (fb δ s1).bind fun y s2 => g s2 x y
def una (g : Op1) (fa : EF) : EF := fun δ s => (fa δ s).bind fun x s1 => g s1 x
def nil : AF := fun _ s => .val [] s
def con (fa : EF) (fr : AF) : AF := fun δ s => (fa δ s).bind fun x s1 => (fr δ s1).bind fun xs s2 => .val (x :: xs) s2
def fnB (g : Sto → List D → O D) (fa : AF) : EF := fun δ s => (fa δ s).bind fun xs s1 => g s1 xs
variable {a b e : Expr} {es : List Expr} {fa fb : EF} {fr : AF} {pos : Pos}
theorem At.bind {α β γ ζ : Type} {K : PySem.W.Frag} (C1 : Car α β) {C2 : Car γ ζ} {Wx : Nat → Hp → Prop} {f : Sl → Sto → O α} {k : Sl → α → Sto → O γ} {σ : L2.St} {H : Hp} {Q : ζ → Hp → Prop} (h : At K C2 Wx (fun δ s => (f δ s).bind (k δ)) σ H Q) :
    At K C1 Wx f σ H fun b H' => ∃ M ι δ s a, Conc K M ι s H' ∧ RepS K M ι δ σ ∧ C1 M ι a b ∧ Post K C2 Wx M ι H' (k δ a s) Q := by
  obtain ⟨M, ι, δ, s, C, S, P⟩ := h
  refine ⟨M, ι, δ, s, C, S, Post.mono (Post.bind C1 P) fun b H' m => ?_⟩
  obtain ⟨M', ι', a, s', t, C', r, P'⟩ := m.ex
  exact ⟨M', ι', δ, s', a, C', S.step t, r, P'⟩
theorem rd_bin {K : PySem.W.Frag} {r : R2} {g : Op2} (ok : Ok2 K r g) (σ : L2.St) (H : Hp) (Q : VK) (h : rdE K cl W (bin g fa fb) σ H Q) : tOp r (rdE K cl W fa) (rdE K cl W fb) σ H Q := by
  obtain ⟨M, ι, δ, s, C, S, P⟩ := h
  refine ⟨M, ι, δ, s, C, S, Post.mono (Post.bind (Rep K) P) fun u H1 m => ?_⟩
  obtain ⟨M1, ι1, x, s1, t1, C1, r1, P1⟩ := m.ex
  refine ⟨M1, ι1, δ, s1, C1, S.step t1, Post.mono (Post.bind (Rep K) P1) fun v H2 m => ?_⟩
  obtain ⟨M2, ι2, y, s2, t2, C2, r2, P2⟩ := m.ex
  exact ok _ M2 ι2 s2 H2 x y u v Q C2 (r1.step t2) r2 P2
theorem rd_una {K : PySem.W.Frag} {r : V → Hp → VK → Prop} {g : Op1} (ok : Ok1 K r g) (σ : L2.St) (H : Hp) (Q : VK) (h : rdE K cl W (una g fa) σ H Q) : tUn r (rdE K cl W fa) σ H Q := by
  obtain ⟨M, ι, δ, s, C, S, P⟩ := h
  refine ⟨M, ι, δ, s, C, S, Post.mono (Post.bind (Rep K) P) fun u H1 m => ?_⟩
  obtain ⟨M1, ι1, x, s1, t1, C1, r1, P1⟩ := m.ex
  exact ok _ M1 ι1 s1 H1 x u Q C1 r1 P1
theorem je_op {op : Operator} {r : R2} {g : Op2} (ho : OpR X (binaryOp op) r) (ok : Ok2 X.K r g) (ha : JE X cl W a fa) (hb : JE X cl W b fb) : JE X cl W (.BinOp a op b pos) (bin g fa fb) := (pe_op ho ha hb).imp (rd_bin ok)
theorem je_un {op : UnaryOp} {r : V → Hp → VK → Prop} {g : Op1} (ho : UnR X (unaryOp op) r) (ok : Ok1 X.K r g) (ha : JE X cl W a fa) : JE X cl W (.UnaryOp op a pos) (una g fa) := (pe_un ho ha).imp (rd_una ok)
theorem je_cmp {op : CmpOp} {r : R2} {g : Op2} (ho : OpR X (compareOp op) r) (ok : Ok2 X.K r g) (ha : JE X cl W a fa) (hb : JE X cl W b fb) (hm : behindInMarks op b = false) : JE X cl W (.Compare a [op] [b] pos) (bin g fa fb) := (pe_cmpR ho ha hb hm).imp (rd_bin ok)
theorem je_ix {r : R2} {g : Op2} (hr : IxR X r) (ok : Ok2 X.K r g) (ha : JE X cl W a fa) (hb : JE X cl W b fb) (hs : PlainIx b) : JE X cl W (.Subscript a b pos) (bin g fa fb) := (pe_ix hr ha hb hs).imp (rd_bin ok)
/-- a < b < c -/
def chain (g g' : Op2) (fa fb fc : EF) : EF := fun δ s => (fa δ s).bind fun x s1 => (fb δ s1).bind fun y s2 => (g s2 x y).bind fun z s3 => match z with
  | .bl true => (fc δ s3).bind fun w s4 => g' s4 y w
  | .bl false => .val (.bl false) s3
  | _ => .stuck
theorem rd_chain {K : PySem.W.Frag} {fc : EF} {r r' : R2} {g g' : Op2} (ok : Ok2 K r g) (ok' : Ok2 K r' g') (σ : L2.St) (H : Hp) (Q : VK) (h : rdE K cl W (chain g g' fa fb fc) σ H Q) : tChain r r' (rdE K cl W fa) (rdE K cl W fb) (rdE K cl W fc) σ H Q := by
  obtain ⟨M, ι, δ, s, C, S, P⟩ := h
  refine ⟨M, ι, δ, s, C, S, Post.mono (Post.bind (Rep K) P) fun u H1 m => ?_⟩
  obtain ⟨M1, ι1, x, s1, t1, C1, r1, P1⟩ := m.ex
  refine ⟨M1, ι1, δ, s1, C1, S.step t1, Post.mono (Post.bind (Rep K) P1) fun v H2 m => ?_⟩
  obtain ⟨M2, ι2, y, s2, t2, C2, r2, P2⟩ := m.ex
  refine ok _ M2 ι2 s2 H2 x y u v _ C2 (r1.step t2) r2 (Post.mono (Post.bind (Rep K) P2) fun z H3 m => ?_)
  obtain ⟨M3, ι3, w, s3, t3, C3, r3, P3⟩ := m.ex
  cases w with
  | bl k =>
    unfold Rep RepF at r3
    subst r3
    refine ⟨k, rfl, ?_⟩
    cases k with
    | true =>
      refine iteT ⟨M3, ι3, δ, s3, C3, S.step ((t1.trans t2).trans t3), Post.mono (Post.bind (Rep K) P3) fun v' H4 m => ?_⟩
      obtain ⟨M4, ι4, y', s4, t4, C4, r4, P4⟩ := m.ex
      exact ok' _ M4 ι4 s4 H4 y y' v v' Q C4 (r2.step (t3.trans t4)) r4 P4
    | false => exact iteF (Post.now (C := Rep K) P3 C3 (Rep.of (by unfold RepF; rfl)))
  | _ => exact P3.elim
theorem je_chain {c : Expr} {fc : EF} {op op' : CmpOp} {r r' : R2} {g g' : Op2} (ho : OpR X (compareOp op) r) (ho' : OpR X (compareOp op') r') (ok : Ok2 X.K r g) (ok' : Ok2 X.K r' g') (ha : JE X cl W a fa) (hb : JE X cl W b fb) (hc : JE X cl W c fc) (hm : lastMarks [op, op'] [b, c] = false := by with_unfolding_all rfl) : JE X cl W (.Compare a [op, op'] [b, c] pos) (chain g g' fa fb fc) := (pe_chain ho ho' ha hb hc hm).imp (rd_chain ok ok')
theorem ja_nil : JA X cl W [] nil := pa_nil.imp fun σ H Q h => by
  obtain ⟨M, ι, δ, s, C, S, P⟩ := h
  exact Post.now (C := Reps X.K) P C .nil
theorem ja_cons (ha : JE X cl W e fa) (hr : JA X cl W es fr) (hs : starEach (e :: es) X.env = (false, eval e X.env) :: starEach es X.env := by rfl) : JA X cl W (e :: es) (con fa fr) := (pa_cons ha hr hs).imp fun σ H Q h => by
  obtain ⟨M, ι, δ, s, C, S, P⟩ := h
  refine ⟨M, ι, δ, s, C, S, Post.mono (Post.bind (Rep X.K) P) fun u H1 m => ?_⟩
  obtain ⟨M1, ι1, x, s1, t1, C1, r1, P1⟩ := m.ex
  refine ⟨M1, ι1, δ, s1, C1, S.step t1, Post.mono (Post.bind (Reps X.K) P1) fun v H2 m => ?_⟩
  obtain ⟨M2, ι2, y, s2, t2, C2, r2, P2⟩ := m.ex
  exact Post.now (C := Reps X.K) P2 C2 (.cons (r1.step t2) r2)
theorem rd_fnB {K : PySem.W.Frag} {r : List V → Hp → VK → Prop} {g : Sto → List D → O D} (ok : OkN K r g) (σ : L2.St) (H : Hp) (Q : VK) (h : rdE K cl W (fnB g fr) σ H Q) : tCB r (rdA K cl W fr) σ H Q := by
  obtain ⟨M, ι, δ, s, C, S, P⟩ := h
  refine ⟨M, ι, δ, s, C, S, Post.mono (Post.bind (Reps K) P) fun u H1 m => ?_⟩
  obtain ⟨M1, ι1, x, s1, t1, C1, r1, P1⟩ := m.ex
  exact ok _ M1 ι1 s1 H1 x u Q C1 r1 P1
theorem je_callB {id : String} {x : Str} {p : Pos} {r : List V → Hp → VK → Prop} {g : Sto → List D → O D} (hc : CallR X (.builtin id) r) (ok : OkN X.K r g) (hg : Gl X x) (hm : X.mg x = none) (hv : bootBuiltins x = some (.builtin id)) (ha : JA X cl W (e :: es) fr) (hn : x ≠ "__name__" := by decide) (hdb : (x == ("__debug__" : Str)) = false := by decide)
    (he : starEach (e :: es) X.env = (false, eval e X.env) :: starEach es X.env := by rfl) (hpl : (backTo pos (starEach es X.env)).any (·.1) = false := by rfl) : JE X cl W (.Call (.Name x p) (e :: es) [] pos) (fnB g fr) := (pe_callB hc hg hm hv ha hn hdb he hpl).imp (rd_fnB ok)
theorem je_callTy {T : String} {x : Str} {p : Pos} {r : List V → Hp → VK → Prop} {g : Sto → List D → O D} (hc : CallR X (.type T) r) (ok : OkN X.K r g) (hg : Gl X x) (hm : X.mg x = none) (hv : bootBuiltins x = some (.type T)) (ha : JA X cl W (e :: es) fr) (hn : x ≠ "__name__" := by decide) (hdb : (x == ("__debug__" : Str)) = false := by decide)
    (he : starEach (e :: es) X.env = (false, eval e X.env) :: starEach es X.env := by rfl) (hpl : (backTo pos (starEach es X.env)).any (·.1) = false := by rfl) : JE X cl W (.Call (.Name x p) (e :: es) [] pos) (fnB g fr) := (pe_callTy hc hg hm hv ha hn hdb he hpl).imp (rd_fnB ok)
/-- o.m(..) of a built-in type -/
def meB (g : Sto → D → List D → O D) (fa : EF) (fr : AF) : EF := fun δ s => (fa δ s).bind fun x s1 => (fr δ s1).bind fun xs s2 => g s2 x xs
def OkM (K : PySem.W.Frag) (T : String) (r : V → List V → Hp → VK → Prop) (g : Sto → D → List D → O D) : Prop := ∀ (Wx : Nat → Hp → Prop) (M : Hp) (ι : List Addr) (s : Sto) (H : Hp) (x : D) (u : V) (xs : List D) (us : List V) (Q : VK), Conc K M ι s H → Rep K M ι x u → Reps K M ι xs us → Post K (Rep K) Wx M ι H (g s x xs) Q → r u us H Q
/-- .. of that type where anything comes of it -/
def TyM (K : PySem.W.Frag) (T : String) (t : Sto → D → Bool) : Prop := ∀ (M : Hp) (ι : List Addr) (s : Sto) (H : Hp) (x : D) (u : V), Conc K M ι s H → Rep K M ι x u → t s x = true → tyV K T u H
def meB' (t : Sto → D → Bool) (g : Sto → D → List D → O D) (fa : EF) (fr : AF) : EF := fun δ s => (fa δ s).bind fun x s1 => if t s1 x = true then (fr δ s1).bind fun xs s2 => g s2 x xs else .stuck
theorem je_bm {name : Str} {T id : String} {apos cpos : Pos} {r : V → List V → Hp → VK → Prop} {t : Sto → D → Bool} {g : Sto → D → List D → O D} (pa : PlainAttrs T) (slot : Slot T name id) (hty : typeOf (.builtin id) = pure (.type "method_descriptor")) (hm : MtR X id r) (tm : TyM X.K T t) (ok : OkM X.K T r g) (ho : JE X cl W a fa) (ha : JA X cl W (e :: es) fr)
    (hbase : attributeBase a name X.env (eval a X.env) = eval a X.env := by rfl)
    (hfew : ((backTo cpos (starEach (e :: es) X.env)).all (fun x => !x.1) && (backToKw cpos (keywordEach [] X.env)).all (fun x => x.1.isSome)
      && decide ((e :: es).length + ([] : List Keyword).length + (if ([] : List Keyword).isEmpty then 0 else 1) < 30)) = true := by rfl)
    (hline : (apos.endLine == cpos.line) = true := by rfl) (hs : starEach (e :: es) X.env = (false, eval e X.env) :: starEach es X.env := by rfl) (hplain : (backTo cpos (starEach es X.env)).any (·.1) = false := by rfl) :
    JE X cl W (.Call (.Attribute a name apos) (e :: es) [] cpos) (meB' t g fa fr) := (pe_bm pa slot hty hm ho ha hbase hfew hline hs hplain).imp fun σ H Q h => by
  obtain ⟨M, ι, δ, s, C, S, P⟩ := h
  refine ⟨M, ι, δ, s, C, S, Post.mono (Post.bind (Rep X.K) P) fun u H1 m => ?_⟩
  obtain ⟨M1, ι1, x, s1, t1, C1, r1, P1⟩ := m.ex
  by_cases ht : t s1 x = true
  · rw [if_pos ht] at P1
    refine ⟨tm M1 ι1 s1 H1 x u C1 r1 ht, M1, ι1, δ, s1, C1, S.step t1, Post.mono (Post.bind (Reps X.K) P1) fun v H2 m => ?_⟩
    obtain ⟨M2, ι2, y, s2, t2, C2, r2, P2⟩ := m.ex
    exact ok _ M2 ι2 s2 H2 x u y v Q C2 (r1.step t2) r2 P2
  · rw [if_neg ht] at P1; exact P1.elim
theorem je_bm0 {name : Str} {T id : String} {apos cpos : Pos} {r : V → List V → Hp → VK → Prop} {t : Sto → D → Bool} {g : Sto → D → List D → O D} (pa : PlainAttrs T) (slot : Slot T name id) (hty : typeOf (.builtin id) = pure (.type "method_descriptor")) (hm : MtR X id r) (tm : TyM X.K T t) (ok : OkM X.K T r g) (ho : JE X cl W a fa)
    (hbase : attributeBase a name X.env (eval a X.env) = eval a X.env := by rfl) (hline : (apos.endLine == cpos.line) = true := by rfl) : JE X cl W (.Call (.Attribute a name apos) [] [] cpos) (meB' t g fa nil) := (pe_bm0 pa slot hty hm ho hbase hline).imp fun σ H Q h => by
  obtain ⟨M, ι, δ, s, C, S, P⟩ := h
  refine ⟨M, ι, δ, s, C, S, Post.mono (Post.bind (Rep X.K) P) fun u H1 m => ?_⟩
  obtain ⟨M1, ι1, x, s1, t1, C1, r1, P1⟩ := m.ex
  by_cases ht : t s1 x = true
  · rw [if_pos ht] at P1
    exact ⟨tm M1 ι1 s1 H1 x u C1 r1 ht, ok _ M1 ι1 s1 H1 x u [] [] Q C1 r1 .nil P1⟩
  · rw [if_neg ht] at P1; exact P1.elim
/-! ### tests -/
def tst (fa : EF) : BF := fun δ s => (fa δ s).bind fun x s1 => match x with
  | .bl b => .val b s1
  | _ => .stuck
theorem rd_tst {K : PySem.W.Frag} (σ : L2.St) (H : Hp) (Q : Bool → Hp → Prop) (h : rdT K cl W (tst fa) σ H Q) : rdE K cl W fa σ H fun x H' => ∃ k, x = .bl k ∧ Q k H' := by
  obtain ⟨M, ι, δ, s, C, S, P⟩ := h
  refine ⟨M, ι, δ, s, C, S, Post.mono (Post.bind (Rep K) P) fun u H1 m => ?_⟩
  obtain ⟨M1, ι1, x, s1, t1, C1, r1, P1⟩ := m.ex
  cases x with
  | bl k =>
    unfold Rep RepF at r1
    exact ⟨k, r1, Post.now (C := CB) P1 C1 rfl⟩
  | _ => exact P1.elim
theorem jt_val (h : JE X cl W e fa) (he : ∀ whole, isTrue e X.env whole = (do let v ← whole; standAt e.pos; holding [v] (truthy v)) := by intro _; rfl) : JT X cl W e (tst fa) := (pt_val h he).imp fun σ H Q h => rd_tst σ H Q h
theorem jt_cmp {op : CmpOp} {r : R2} {g : Op2} (ho : OpR X (compareOp op) r) (ok : Ok2 X.K r g) (ha : JE X cl W a fa) (hb : JE X cl W b fb) (hm : behindInMarks op b = false) : JT X cl W (.Compare a [op] [b] pos) (tst (bin g fa fb)) := (pt_cmpR ho ha hb hm).imp fun σ H Q h => rd_bin ok σ H _ (rd_tst σ H Q h)
theorem jt_chain {c : Expr} {fc : EF} {op op' : CmpOp} {r r' : R2} {g g' : Op2} (ho : OpR X (compareOp op) r) (ho' : OpR X (compareOp op') r') (ok : Ok2 X.K r g) (ok' : Ok2 X.K r' g') (ha : JE X cl W a fa) (hb : JE X cl W b fb) (hc : JE X cl W c fc) (hm : lastMarks [op, op'] [b, c] = false := by with_unfolding_all rfl) : JT X cl W (.Compare a [op, op'] [b, c] pos) (tst (chain g g' fa fb fc)) := (pt_chain ho ho' ha hb hc hm).imp fun σ H Q h => rd_chain ok ok' σ H _ (rd_tst σ H Q h)
variable {ta tb : BF} {rest : List Expr}
def andT (ta tb : BF) : BF := fun δ s => (ta δ s).bind fun b s1 => if b = true then tb δ s1 else .val false s1
def orT (ta tb : BF) : BF := fun δ s => (ta δ s).bind fun b s1 => if b = true then .val true s1 else tb δ s1
def notT (ta : BF) : BF := fun δ s => (ta δ s).bind fun b s1 => .val (!b) s1
theorem jw_and1 (ha : JT X cl W a ta) : JW X cl W (.BoolOp .And [a] pos) ta := pw_and1 ha
theorem jw_or1 (ha : JT X cl W a ta) : JW X cl W (.BoolOp .Or [a] pos) ta := pw_or1 ha
theorem jw_and (ha : JT X cl W a ta) (hb : JW X cl W (.BoolOp .And (b :: rest) pos) tb) : JW X cl W (.BoolOp .And (a :: b :: rest) pos) (andT ta tb) := (pw_and ha hb).imp fun σ H Q h => by
  obtain ⟨M, ι, δ, s, C, S, P⟩ := h
  refine ⟨M, ι, δ, s, C, S, Post.mono (Post.bind CB P) fun u H1 m => ?_⟩
  obtain ⟨M1, ι1, x, s1, t1, C1, rfl, P1⟩ := m.ex
  cases u with
  | true => exact iteT ⟨M1, ι1, δ, s1, C1, S.step t1, P1⟩
  | false => exact iteF (Post.now (C := CB) P1 C1 rfl)
theorem jw_or (ha : JT X cl W a ta) (hb : JW X cl W (.BoolOp .Or (b :: rest) pos) tb) : JW X cl W (.BoolOp .Or (a :: b :: rest) pos) (orT ta tb) := (pw_or ha hb).imp fun σ H Q h => by
  obtain ⟨M, ι, δ, s, C, S, P⟩ := h
  refine ⟨M, ι, δ, s, C, S, Post.mono (Post.bind CB P) fun u H1 m => ?_⟩
  obtain ⟨M1, ι1, x, s1, t1, C1, rfl, P1⟩ := m.ex
  cases u with
  | true => exact iteT (Post.now (C := CB) P1 C1 rfl)
  | false => exact iteF ⟨M1, ι1, δ, s1, C1, S.step t1, P1⟩
theorem jt_w (h : JW X cl W e ta) : JT X cl W e ta := h.pt
theorem jt_not (ha : JT X cl W a ta) : JT X cl W (.UnaryOp .Not a pos) (notT ta) := (pt_not ha).imp fun σ H Q h => by
  obtain ⟨M, ι, δ, s, C, S, P⟩ := h
  refine ⟨M, ι, δ, s, C, S, Post.mono (Post.bind CB P) fun u H1 m => ?_⟩
  obtain ⟨M1, ι1, x, s1, t1, C1, rfl, P1⟩ := m.ex
  exact Post.now (C := CB) P1 C1 rfl
/-- as values -/
def andE (fa fb : EF) : EF := fun δ s => (fa δ s).bind fun x s1 => match x with
  | .bl true => fb δ s1
  | .bl false => .val (.bl false) s1
  | _ => .stuck
def orE (fa fb : EF) : EF := fun δ s => (fa δ s).bind fun x s1 => match x with
  | .bl false => fb δ s1
  | .bl true => .val (.bl true) s1
  | _ => .stuck
def notE (fa : EF) : EF := fun δ s => (fa δ s).bind fun x s1 => match x with
  | .bl b => .val (.bl (!b)) s1
  | _ => .stuck
theorem je_one {op} (h : JE X cl W a fa) : JE X cl W (.BoolOp op [a] pos) fa := pe_one h
theorem je_and (ha : JE X cl W a fa) (hb : JE X cl W (.BoolOp .And (b :: rest) pos) fb) : JE X cl W (.BoolOp .And (a :: b :: rest) pos) (andE fa fb) := (pe_and ha hb).imp fun σ H Q h => by
  obtain ⟨M, ι, δ, s, C, S, P⟩ := h
  refine ⟨M, ι, δ, s, C, S, Post.mono (Post.bind (Rep X.K) P) fun u H1 m => ?_⟩
  obtain ⟨M1, ι1, x, s1, t1, C1, r1, P1⟩ := m.ex
  cases x with
  | bl k =>
    unfold Rep RepF at r1
    refine ⟨k, r1, ?_⟩
    cases k with
    | true => exact iteT ⟨M1, ι1, δ, s1, C1, S.step t1, P1⟩
    | false => exact iteF (Post.now (C := Rep X.K) P1 C1 (Rep.of (by unfold RepF; rfl)))
  | _ => exact P1.elim
theorem je_or (ha : JE X cl W a fa) (hb : JE X cl W (.BoolOp .Or (b :: rest) pos) fb) : JE X cl W (.BoolOp .Or (a :: b :: rest) pos) (orE fa fb) := (pe_or ha hb).imp fun σ H Q h => by
  obtain ⟨M, ι, δ, s, C, S, P⟩ := h
  refine ⟨M, ι, δ, s, C, S, Post.mono (Post.bind (Rep X.K) P) fun u H1 m => ?_⟩
  obtain ⟨M1, ι1, x, s1, t1, C1, r1, P1⟩ := m.ex
  cases x with
  | bl k =>
    unfold Rep RepF at r1
    refine ⟨k, r1, ?_⟩
    cases k with
    | true => exact iteT (Post.now (C := Rep X.K) P1 C1 (Rep.of (by unfold RepF; rfl)))
    | false => exact iteF ⟨M1, ι1, δ, s1, C1, S.step t1, P1⟩
  | _ => exact P1.elim
theorem je_not (ha : JE X cl W a fa) : JE X cl W (.UnaryOp .Not a pos) (notE fa) := (pe_not ha).imp fun σ H Q h => by
  obtain ⟨M, ι, δ, s, C, S, P⟩ := h
  refine ⟨M, ι, δ, s, C, S, Post.mono (Post.bind (Rep X.K) P) fun u H1 m => ?_⟩
  obtain ⟨M1, ι1, x, s1, t1, C1, r1, P1⟩ := m.ex
  cases x with
  | bl k =>
    unfold Rep RepF at r1
    exact ⟨k, r1, Post.now (C := Rep X.K) P1 C1 (Rep.of (by unfold RepF; rfl))⟩
  | _ => exact P1.elim
def iteE (ta : BF) (fa fb : EF) : EF := fun δ s => (ta δ s).bind fun b s1 => if b = true then fa δ s1 else fb δ s1
theorem je_ite {c : Expr} (hc : JT X cl W c ta) (ha : JE X cl W a fa) (hb : JE X cl W b fb) : JE X cl W (.IfExp c a b pos) (iteE ta fa fb) := (pe_ifExp hc ha hb).imp fun σ H Q h => by
  obtain ⟨M, ι, δ, s, C, S, P⟩ := h
  refine ⟨M, ι, δ, s, C, S, Post.mono (Post.bind CB P) fun u H1 m => ?_⟩
  obtain ⟨M1, ι1, x, s1, t1, C1, rfl, P1⟩ := m.ex
  cases u with
  | true => exact iteT ⟨M1, ι1, δ, s1, C1, S.step t1, P1⟩
  | false => exact iteF ⟨M1, ι1, δ, s1, C1, S.step t1, P1⟩
/-! ### displays -/
theorem lim_le {n : Nat} (h : n ≤ 16000000) : n ≤ sizeLine := Nat.le_trans h (by decide)
def tupE (fr : AF) : EF := fun δ s => (fr δ s).bind fun xs s1 => if flats xs = true ∧ xs.length ≤ 16000000 then .val (.tup xs) s1 else .stuck
def lstE (fr : AF) : EF := fun δ s => (fr δ s).bind fun xs s1 => if flats xs = true ∧ xs.length ≤ 16000000 then .val (.lst xs) s1 else .stuck
/-- a list of one's own -/
def ownE (fr : AF) : EF := fun δ s => (fr δ s).bind fun xs s1 => if flats xs = true ∧ xs.length ≤ 16000000 then .val (.ob s1.length) (s1 ++ [.lst xs]) else .stuck
theorem Post.laidT {K : PySem.W.Frag} {Wx : Nat → Hp → Prop} {M : Hp} {ι : List Addr} {H : Hp} {s : Sto} {xs : List D} {us : List V} {Q : VK} (P : Post K (Rep K) Wx M ι H (.val (.tup xs) s) Q) (C : Conc K M ι s H) (r : RepL K M xs us) {p : Addr} (hp : H p = none) : Q (.ref p) (upd H p (.tup us)) := by
  obtain ⟨C1, t1⟩ := C.laid (o := .tup us) hp
  exact P _ _ _ _ t1 C1 (Rep.of (by unfold RepF; exact ⟨p, us, rfl, .inl upd_same, r.step t1⟩))
theorem Post.laidL {K : PySem.W.Frag} {Wx : Nat → Hp → Prop} {M : Hp} {ι : List Addr} {H : Hp} {s : Sto} {xs : List D} {us : List V} {Q : VK} (P : Post K (Rep K) Wx M ι H (.val (.lst xs) s) Q) (C : Conc K M ι s H) (r : RepL K M xs us) {p : Addr} (hp : H p = none) : Q (.ref p) (upd H p (.lst us)) := by
  obtain ⟨C1, t1⟩ := C.laid (o := .lst us) hp
  exact P _ _ _ _ t1 C1 (Rep.of (by unfold RepF; exact ⟨p, us, rfl, upd_same, r.step t1⟩))
theorem Conc.owned {K : PySem.W.Frag} {M : Hp} {ι : List Addr} {s : Sto} {H : Hp} (C : Conc K M ι s H) {p : Addr} {xs : List D} {us : List V} (hp : H p = none) (r : RepL K M xs us) : Conc K M (ι ++ [p]) (s ++ [.lst xs]) (upd H p (.lst us)) ∧ Step M ι H M (ι ++ [p]) (upd H p (.lst us)) := by
  obtain ⟨hM, hι⟩ := C.fresh hp
  obtain ⟨C1, t1⟩ := C.over (o := .lst us) hp
  refine ⟨C1.join hι ⟨hM, us, upd_same, r⟩, Ex.refl M, ii_app, t1.fr, fun a h => ?_, fun a e => .inl e⟩
  rcases List.mem_append.mp h with h | h
  · exact .inl h
  · obtain rfl : a = p := by simpa using h
    exact .inr hp
theorem Post.laidO {K : PySem.W.Frag} {Wx : Nat → Hp → Prop} {M : Hp} {ι : List Addr} {H : Hp} {s : Sto} {xs : List D} {us : List V} {Q : VK} (P : Post K (Rep K) Wx M ι H (.val (.ob s.length) (s ++ [.lst xs])) Q) (C : Conc K M ι s H) (r : RepL K M xs us) {p : Addr} (hp : H p = none) : Q (.ref p) (upd H p (.lst us)) := by
  obtain ⟨C1, t1⟩ := C.owned hp r
  exact P _ _ _ _ t1 C1 ⟨p, rfl, by rw [← C.len]; simp⟩
theorem je_tup {k : Nat} (h : JA X cl W es fr) : JE X cl W (.Tuple es k pos) (tupE fr) := (pe_tup h).imp fun σ H Q h => by
  obtain ⟨M, ι, δ, s, C, S, P⟩ := h
  refine ⟨M, ι, δ, s, C, S, Post.mono (Post.bind (Reps X.K) P) fun us H1 m => ?_⟩
  obtain ⟨M1, ι1, xs, s1, t1, C1, r1, P1⟩ := m.ex
  by_cases hc : flats xs = true ∧ xs.length ≤ 16000000
  · rw [if_pos hc] at P1
    exact ⟨by rw [r1.length]; exact lim_le hc.2, fun p hp => Post.laidT P1 C1 (r1.flat hc.1) hp⟩
  · rw [if_neg hc] at P1; exact P1.elim
theorem je_lst (h : JA X cl W es fr) : JE X cl W (.List es pos) (lstE fr) := (pe_lst h).imp fun σ H Q h => by
  obtain ⟨M, ι, δ, s, C, S, P⟩ := h
  refine ⟨M, ι, δ, s, C, S, Post.mono (Post.bind (Reps X.K) P) fun us H1 m => ?_⟩
  obtain ⟨M1, ι1, xs, s1, t1, C1, r1, P1⟩ := m.ex
  by_cases hc : flats xs = true ∧ xs.length ≤ 16000000
  · rw [if_pos hc] at P1
    exact ⟨by rw [r1.length]; exact lim_le hc.2, fun p hp => Post.laidL P1 C1 (r1.flat hc.1) hp⟩
  · rw [if_neg hc] at P1; exact P1.elim
theorem je_own (h : JA X cl W es fr) : JE X cl W (.List es pos) (ownE fr) := (pe_lst h).imp fun σ H Q h => by
  obtain ⟨M, ι, δ, s, C, S, P⟩ := h
  refine ⟨M, ι, δ, s, C, S, Post.mono (Post.bind (Reps X.K) P) fun us H1 m => ?_⟩
  obtain ⟨M1, ι1, xs, s1, t1, C1, r1, P1⟩ := m.ex
  by_cases hc : flats xs = true ∧ xs.length ≤ 16000000
  · rw [if_pos hc] at P1
    exact ⟨by rw [r1.length]; exact lim_le hc.2, fun p hp => Post.laidO P1 C1 (r1.flat hc.1) hp⟩
  · rw [if_neg hc] at P1; exact P1.elim
end
end Fl
set_option Elab.async false
set_option linter.all false
set_option maxRecDepth 100000
namespace Fl
open PySem PySem.Spec PyProof.Rows L2
/-! ### data, looked at -/
def view (s : Sto) : D → D
  | .ob k => match s[k]? with
    | some (.lst ds) => .lst ds
    | _ => .ob k
  | d => d
@[simp] theorem view_non {s : Sto} : view s .non = .non := rfl
@[simp] theorem view_bl {s : Sto} {b : Bool} : view s (.bl b) = .bl b := rfl
@[simp] theorem view_int {s : Sto} {b : Int} : view s (.int b) = .int b := rfl
@[simp] theorem view_str {s : Sto} {b : List Nat} : view s (.str b) = .str b := rfl
@[simp] theorem view_tup {s : Sto} {b : List D} : view s (.tup b) = .tup b := rfl
@[simp] theorem view_lst {s : Sto} {b : List D} : view s (.lst b) = .lst b := rfl
@[simp] theorem view_ty {s : Sto} {b : String} : view s (.ty b) = .ty b := rfl
@[simp] theorem view_scr {s : Sto} {b : List Int} : view s (.scr b) = .scr b := rfl
theorem view_ob {s : Sto} {k : Nat} {ds : List D} (h : s[k]? = some (.lst ds)) : view s (.ob k) = .lst ds := by simp only [view, h]
/-- a looked-at value where it stands -/
def Sees (K : PySem.W.Frag) (M H : Hp) : D → V → Prop
  | .lst ds, v => ∃ a vs, v = .ref a ∧ H a = some (.lst vs) ∧ RepL K M ds vs
  | .ob _, _ => True
  | d, v => RepF K M d v
section
variable {K : PySem.W.Frag} {M : Hp} {ι : List Addr} {s : Sto} {H : Hp}
theorem Conc.sees (C : Conc K M ι s H) {x : D} {v : V} (r : Rep K M ι x v) : Sees K M H (view s x) v := by
  cases x with
  | ob k =>
    obtain ⟨a, rfl, h⟩ := r
    cases e : s[k]? with
    | none =>
      have q : view s (.ob k) = .ob k := by simp only [view, e]
      rw [q]; exact True.intro
    | some o =>
      cases o with
      | dead =>
        have q : view s (.ob k) = .ob k := by simp only [view, e]
        rw [q]; exact True.intro
      | lst ds =>
        rw [view_ob e]
        obtain ⟨hM, vs, h1, h2⟩ := C.obs k a _ h e
        exact ⟨a, vs, rfl, h1, h2⟩
  | lst ds =>
    have r' : RepF K M (.lst ds) v := r
    unfold RepF at r'
    obtain ⟨a, vs, e, h1, h2⟩ := r'
    exact ⟨a, vs, e, C.sub a _ h1, h2⟩
  | _ => exact r
/-! ### == -/
mutual
def toPy : D → PyData
  | .non => .none
  | .bl b => .bool b
  | .int i => .int i
  | .str x => .str ⟨x.toArray⟩
  | .tup ds => .tuple (toPys ds)
  | .lst ds => .list (toPys ds)
  | .scr ns => .list (ns.map PyData.int)
  | .ty _ => .none
  | .ob _ => .none
def toPys : List D → List PyData
  | [] => []
  | d :: ds => toPy d :: toPys ds
end
mutual
/-- how deep; 100 for what == is not asked of -/
def dep : D → Nat
  | .tup ds => deps ds + 1
  | .lst ds => deps ds + 1
  | .scr _ => 1
  | .ty _ => 100
  | .ob _ => 100
  | _ => 0
def deps : List D → Nat
  | [] => 0
  | d :: ds => max (dep d) (deps ds)
end
theorem dpAll_ints : ∀ ns : List Int, DpAll K H (ns.map V.int) (ns.map PyData.int)
  | [] => .nil
  | n :: ns => .cons (.int n) (dpAll_ints ns)
mutual
theorem RepF.dp (m : Ex M H) : ∀ {d : D} {v : V}, RepF K M d v → dep d < 100 → Dp K H v (toPy d)
  | .non, v, h, _ => by unfold RepF at h; subst h; unfold toPy; exact .non
  | .bl b, v, h, _ => by unfold RepF at h; subst h; unfold toPy; exact .bl b
  | .int i, v, h, _ => by unfold RepF at h; subst h; unfold toPy; exact .int i
  | .str x, v, h, _ => by unfold RepF at h; obtain ⟨rfl, _⟩ := h; unfold toPy; exact .str _
  | .tup ds, v, h, e => by
    unfold RepF at h
    obtain ⟨a, vs, rfl, h1, h2⟩ := h
    unfold toPy
    unfold dep at e
    exact .tup (Ex.t m h1.sq) (RepL.dp m h2 (by omega))
  | .lst ds, v, h, e => by
    unfold RepF at h
    obtain ⟨a, vs, rfl, h1, h2⟩ := h
    unfold toPy
    unfold dep at e
    exact .lst (SqL.of (m _ _ h1)) (RepL.dp m h2 (by omega))
  | .scr ns, v, h, _ => by
    unfold RepF at h
    obtain ⟨a, rfl, h1⟩ := h
    unfold toPy
    exact .lst (Ex.l m h1) (dpAll_ints ns)
  | .ty _, _, _, e => by unfold dep at e; omega
  | .ob _, _, _, e => by unfold dep at e; omega
theorem RepL.dp (m : Ex M H) : ∀ {ds : List D} {vs : List V}, RepL K M ds vs → deps ds < 100 → DpAll K H vs (toPys ds)
  | [], _, h, _ => by rw [h.unnil]; unfold toPys; exact .nil
  | d :: ds, _, h, e => by
    obtain ⟨v, r, rfl, h1, h2⟩ := h.uncons
    unfold deps at e
    unfold toPys
    exact .cons (RepF.dp m h1 (by omega)) (RepL.dp m h2 (by omega))
end
theorem Sees.dp (m : Ex M H) {d : D} {v : V} (h : Sees K M H d v) (e : dep d < 100) : Dp K H v (toPy d) := by
  cases d with
  | lst ds =>
    obtain ⟨a, vs, rfl, h1, h2⟩ := h
    unfold toPy
    unfold dep at e
    exact .lst (SqL.of h1) (RepL.dp m h2 (by omega))
  | ob k => unfold dep at e; omega
  | _ => exact RepF.dp m h e
theorem lay_ints : ∀ ns : List Int, PyData.canLayAll0 (ns.map PyData.int) = true
  | [] => by simp [PyData.canLayAll0]
  | n :: ns => by simp [PyData.canLayAll0, PyData.canLay0, lay_ints ns]
mutual
theorem RepF.lay : ∀ {d : D} {v : V}, RepF K M d v → PyData.canLay0 (toPy d) = true
  | .non, _, _ => by simp [toPy, PyData.canLay0]
  | .bl _, _, _ => by simp [toPy, PyData.canLay0]
  | .int _, _, _ => by simp [toPy, PyData.canLay0]
  | .str x, _, h => by
    unfold RepF at h
    have h2 := h.2
    simp only [toPy, PyData.canLay0, PyData.strOk]
    rw [← Array.all_toList]
    exact h2
  | .tup ds, _, h => by
    unfold RepF at h
    obtain ⟨a, vs, _, _, h2⟩ := h
    simp only [toPy, PyData.canLay0]
    exact RepL.lay h2
  | .lst ds, _, h => by
    unfold RepF at h
    obtain ⟨a, vs, _, _, h2⟩ := h
    simp only [toPy, PyData.canLay0]
    exact RepL.lay h2
  | .scr ns, _, _ => by simp only [toPy, PyData.canLay0]; exact lay_ints ns
  | .ty _, _, _ => by simp [toPy, PyData.canLay0]
  | .ob _, _, _ => by simp [toPy, PyData.canLay0]
theorem RepL.lay : ∀ {ds : List D} {vs : List V}, RepL K M ds vs → PyData.canLayAll0 (toPys ds) = true
  | [], _, _ => by simp [toPys, PyData.canLayAll0]
  | d :: ds, _, h => by
    obtain ⟨v, r, rfl, h1, h2⟩ := h.uncons
    simp only [toPys, PyData.canLayAll0, Bool.and_eq_true]
    exact ⟨RepF.lay h1, RepL.lay h2⟩
end
theorem Sees.lay {d : D} {v : V} (h : Sees K M H d v) : PyData.canLay0 (toPy d) = true := by
  cases d with
  | lst ds =>
    obtain ⟨a, vs, _, _, h2⟩ := h
    simp only [toPy, PyData.canLay0]
    exact RepL.lay h2
  | ob k => simp [toPy, PyData.canLay0]
  | _ => exact RepF.lay (K := K) (M := M) h
theorem depth_ints : ∀ ns : List Int, PyData.depthAll (ns.map PyData.int) = 0
  | [] => by simp [PyData.depthAll]
  | n :: ns => by simp [PyData.depthAll, PyData.depth, depth_ints ns]
mutual
theorem depth_py : ∀ d : D, PyData.depth (toPy d) ≤ dep d
  | .non => by simp [toPy, PyData.depth]
  | .bl _ => by simp [toPy, PyData.depth]
  | .int _ => by simp [toPy, PyData.depth]
  | .str _ => by simp [toPy, PyData.depth]
  | .tup ds => by have := depths_py ds; simp only [toPy, PyData.depth, dep]; omega
  | .lst ds => by have := depths_py ds; simp only [toPy, PyData.depth, dep]; omega
  | .scr ns => by simp [toPy, PyData.depth, dep, depth_ints]
  | .ty _ => by simp [toPy, PyData.depth]
  | .ob _ => by simp [toPy, PyData.depth]
theorem depths_py : ∀ ds : List D, PyData.depthAll (toPys ds) ≤ deps ds
  | [] => by simp [toPys, PyData.depthAll]
  | d :: ds => by
    have h1 := depth_py d
    have h2 := depths_py ds
    simp only [toPys, PyData.depthAll, deps]
    omega
end
theorem Sees.shaped {d : D} {v : V} (h : Sees K M H d v) (e : dep d ≤ 60) : SeqAt.shaped (toPy d) = true := by
  unfold SeqAt.shaped
  rw [h.lay, Bool.true_and]
  exact decide_eq_true (Nat.le_trans (depth_py d) (by omega))
def deq (x y : D) : Bool := PyData.eqv (toPy x) (toPy y)
def deqs (xs ys : List D) : Bool := PyData.eqvAll (toPys xs) (toPys ys)
end
def eqG : Op2 := fun s x y => if dep (view s x) ≤ 60 ∧ dep (view s y) ≤ 60 then .val (.bl (deq (view s x) (view s y))) s else .stuck
def neG : Op2 := fun s x y => if dep (view s x) ≤ 60 ∧ dep (view s y) ≤ 60 then .val (.bl (!deq (view s x) (view s y))) s else .stuck
theorem rf_bl {K : PySem.W.Frag} {M : Hp} {ι : List Addr} {b : Bool} : Rep K M ι (.bl b) (.bl b) := Rep.of (by unfold RepF; rfl)
theorem rf_int {K : PySem.W.Frag} {M : Hp} {ι : List Addr} {b : Int} : Rep K M ι (.int b) (.int b) := Rep.of (by unfold RepF; rfl)
theorem rf_non {K : PySem.W.Frag} {M : Hp} {ι : List Addr} : Rep K M ι .non .non := Rep.of (by unfold RepF; rfl)
theorem rf_str {K : PySem.W.Frag} {M : Hp} {ι : List Addr} {cs : List Nat} (h : okS cs = true) : Rep K M ι (.str cs) (.str ⟨cs.toArray⟩) := Rep.of (by unfold RepF; exact ⟨rfl, h⟩)
theorem rf_str' {K : PySem.W.Frag} {M : Hp} {ι : List Addr} {cs : List Nat} {x : Str} (e : x = ⟨cs.toArray⟩) (h : okS cs = true) : Rep K M ι (.str cs) (.str x) := by rw [e]; exact rf_str h
theorem ok_eq {K : PySem.W.Frag} : Ok2 K (rEqD K) eqG := fun Wx M ι s H x y u v Q C rx ry P => by
  unfold eqG at P
  split at P
  · rename_i h
    have s1 := C.sees rx
    have s2 := C.sees ry
    exact ⟨_, _, s1.dp C.sub (by omega), s2.dp C.sub (by omega), s1.shaped h.1, s2.shaped h.2, Post.now (C := Rep K) P C rf_bl⟩
  · exact P.elim
theorem ok_ne {K : PySem.W.Frag} : Ok2 K (rNeD K) neG := fun Wx M ι s H x y u v Q C rx ry P => by
  unfold neG at P
  split at P
  · rename_i h
    have s1 := C.sees rx
    have s2 := C.sees ry
    exact ⟨_, _, s1.dp C.sub (by omega), s2.dp C.sub (by omega), s1.shaped h.1, s2.shaped h.2, Post.now (C := Rep K) P C rf_bl⟩
  · exact P.elim
/-! ### arithmetic -/
def intG (f : Int → Int → D) : Op2 := fun s x y => match x, y with
  | .int i, .int j => .val (f i j) s
  | _, _ => .stuck
def intCG (c : Int → Int → Bool) (f : Int → Int → D) : Op2 := fun s x y => match x, y with
  | .int i, .int j => if c i j = true then .val (f i j) s else .stuck
  | _, _ => .stuck
theorem Rep.int {K : PySem.W.Frag} {M : Hp} {ι : List Addr} {i : Int} {v : V} (h : Rep K M ι (.int i) v) : v = .int i := by
  have h' : RepF K M (.int i) v := h
  unfold RepF at h'; exact h'
theorem Rep.bl {K : PySem.W.Frag} {M : Hp} {ι : List Addr} {i : Bool} {v : V} (h : Rep K M ι (.bl i) v) : v = .bl i := by
  have h' : RepF K M (.bl i) v := h
  unfold RepF at h'; exact h'
theorem Rep.str {K : PySem.W.Frag} {M : Hp} {ι : List Addr} {i : List Nat} {v : V} (h : Rep K M ι (.str i) v) : v = .str ⟨i.toArray⟩ ∧ okS i = true := by
  have h' : RepF K M (.str i) v := h
  unfold RepF at h'; exact h'
theorem Rep.non {K : PySem.W.Frag} {M : Hp} {ι : List Addr} {v : V} (h : Rep K M ι .non v) : v = .non := by
  have h' : RepF K M .non v := h
  unfold RepF at h'; exact h'
theorem Rep.tup {K : PySem.W.Frag} {M : Hp} {ι : List Addr} {ds : List D} {v : V} (h : Rep K M ι (.tup ds) v) : ∃ a vs, v = .ref a ∧ TupAt K M a vs ∧ RepL K M ds vs := by
  have h' : RepF K M (.tup ds) v := h
  unfold RepF at h'; exact h'
theorem Rep.lst {K : PySem.W.Frag} {M : Hp} {ι : List Addr} {ds : List D} {v : V} (h : Rep K M ι (.lst ds) v) : ∃ a vs, v = .ref a ∧ M a = some (.lst vs) ∧ RepL K M ds vs := by
  have h' : RepF K M (.lst ds) v := h
  unfold RepF at h'; exact h'
theorem ok_int {K : PySem.W.Frag} {f : Int → Int → D} {g : Int → Int → V} (h : ∀ i j M ι, Rep K M ι (f i j) (g i j)) : Ok2 K (rI0 g) (intG f) := fun Wx M ι s H x y u v Q C rx ry P => by
  unfold intG at P
  split at P
  · exact ⟨_, _, rx.int, ry.int, Post.now (C := Rep K) P C (h _ _ _ _)⟩
  · exact P.elim
theorem ok_intC {K : PySem.W.Frag} {c : Int → Int → Bool} {p : Int → Int → Prop} {f : Int → Int → D} {g : Int → Int → V} (hc : ∀ i j, c i j = true → p i j) (h : ∀ i j M ι, Rep K M ι (f i j) (g i j)) : Ok2 K (rI p g) (intCG c f) := fun Wx M ι s H x y u v Q C rx ry P => by
  unfold intCG at P
  split at P
  · split at P
    · rename_i e
      exact ⟨_, _, rx.int, ry.int, hc _ _ e, Post.now (C := Rep K) P C (h _ _ _ _)⟩
    · exact P.elim
  · exact P.elim
def subG : Op2 := intG fun i j => .int (i - j)
def ltG : Op2 := intG fun i j => .bl (decide (i < j))
def leG : Op2 := intG fun i j => .bl (decide (i ≤ j))
def gtG : Op2 := intG fun i j => .bl (decide (j < i))
def geG : Op2 := intG fun i j => .bl (decide (j ≤ i))
def modG : Op2 := intCG (fun _ j => decide (0 < j)) fun i j => .int (i % j)
def divG : Op2 := intCG (fun _ j => decide (0 < j) && decide (j < 2 ^ 64)) fun i j => .int (i / j)
def powG : Op2 := intCG (fun i j => decide (0 ≤ j) && decide (j ≤ 1000) && decide (-1000 < i) && decide (i < 1000)) fun i j => .int (i ^ j.toNat)
def big (i : Int) : Bool := decide (-(2 ^ 64) < i) && decide (i < 2 ^ 64)
theorem ok_sub {K : PySem.W.Frag} : Ok2 K (rI0 fun i j => .int (i - j)) subG := ok_int fun _ _ _ _ => rf_int
theorem ok_lt {K : PySem.W.Frag} : Ok2 K (rI0 fun i j => .bl (decide (i < j))) ltG := ok_int fun _ _ _ _ => rf_bl
theorem ok_le {K : PySem.W.Frag} : Ok2 K (rI0 fun i j => .bl (decide (i ≤ j))) leG := ok_int fun _ _ _ _ => rf_bl
theorem ok_gt {K : PySem.W.Frag} : Ok2 K (rI0 fun i j => .bl (decide (j < i))) gtG := ok_int fun _ _ _ _ => rf_bl
theorem ok_ge {K : PySem.W.Frag} : Ok2 K (rI0 fun i j => .bl (decide (j ≤ i))) geG := ok_int fun _ _ _ _ => rf_bl
theorem ok_mod {K : PySem.W.Frag} : Ok2 K (rI (fun _ j => 0 < j) fun i j => .int (i % j)) modG := ok_intC (fun _ _ h => of_decide_eq_true h) fun _ _ _ _ => rf_int
theorem ok_div {K : PySem.W.Frag} : Ok2 K (rI CDivW fun i j => .int (i / j)) divG := ok_intC (fun i j h => by
  simp only [Bool.and_eq_true, decide_eq_true_eq] at h
  exact wide_div (b := 64) h.1 (by omega) (by omega) (by omega)) fun _ _ _ _ => rf_int
theorem ok_pow {K : PySem.W.Frag} : Ok2 K (rI CPow fun i j => .int (i ^ j.toNat)) powG := ok_intC (fun i j h => by
  simp only [Bool.and_eq_true, decide_eq_true_eq] at h
  exact ⟨h.1.1.1, by omega, by omega⟩) fun _ _ _ _ => rf_int
def negG : Op1 := fun s x => match x with
  | .int i => .val (.int (-i)) s
  | _ => .stuck
theorem ok_neg {K : PySem.W.Frag} : Ok1 K (rU fun i => .int (-i)) negG := fun Wx M ι s H x u Q C rx P => by
  unfold negG at P
  split at P
  · exact ⟨_, rx.int, Post.now (C := Rep K) P C rf_int⟩
  · exact P.elim
/-! ### + -/
def addG : Op2 := fun s x y => match view s x, view s y with
  | .int i, .int j => .val (.int (i + j)) s
  | .str a, .str b => if a.length + b.length ≤ 16000000 then .val (.str (a ++ b)) s else .stuck
  | .lst a, .lst b => if a.length + b.length ≤ 16000000 then .val (.lst (a ++ b)) s else .stuck
  | .tup a, .tup b => if a.length + b.length ≤ 16000000 then .val (.tup (a ++ b)) s else .stuck
  | _, _ => .stuck
def rAddU (K : PySem.W.Frag) : R2 := fun x y H Q => ((rI0 fun i j => .int (i + j)) x y H Q ∨ (∃ i j, x = .str i ∧ y = .str j ∧ i.length + j.length ≤ sizeLine ∧ Q (.str (i ++ j)) H)) ∨ (rCat x y H Q ∨ rCatA K x y H Q)
theorem op_addU {X : Cx} : OpR X (binaryOp .Add) (rAddU X.K) := (op_add.or op_add_str).or (op_cat.or op_catA)
theorem okS_app {a b : List Nat} (ha : okS a = true) (hb : okS b = true) : okS (a ++ b) = true := by
  unfold okS at *
  rw [List.all_append, ha, hb]; rfl
theorem Sees.int {K : PySem.W.Frag} {M H : Hp} {i : Int} {v : V} (h : Sees K M H (.int i) v) : v = .int i := by
  have h' : RepF K M (.int i) v := h
  unfold RepF at h'; exact h'
theorem Sees.str {K : PySem.W.Frag} {M H : Hp} {i : List Nat} {v : V} (h : Sees K M H (.str i) v) : v = .str ⟨i.toArray⟩ ∧ okS i = true := by
  have h' : RepF K M (.str i) v := h
  unfold RepF at h'; exact h'
theorem Sees.tup {K : PySem.W.Frag} {M H : Hp} {ds : List D} {v : V} (h : Sees K M H (.tup ds) v) : ∃ a vs, v = .ref a ∧ TupAt K M a vs ∧ RepL K M ds vs := by
  have h' : RepF K M (.tup ds) v := h
  unfold RepF at h'; exact h'
theorem ok_add {K : PySem.W.Frag} : Ok2 K (rAddU K) addG := fun Wx M ι s H x y u v Q C rx ry P => by
  have s1 := C.sees rx
  have s2 := C.sees ry
  unfold addG at P
  split at P
  · rename_i e1 e2
    rw [e1] at s1; rw [e2] at s2
    exact .inl (.inl ⟨_, _, s1.int, s2.int, Post.now (C := Rep K) P C rf_int⟩)
  · rename_i a b e1 e2
    rw [e1] at s1; rw [e2] at s2
    split at P
    · rename_i hl
      obtain ⟨rfl, o1⟩ := s1.str
      obtain ⟨rfl, o2⟩ := s2.str
      refine .inl (.inr ⟨_, _, rfl, rfl, ?_, Post.now (C := Rep K) P C (rf_str' (SX.S_cat a b) (okS_app o1 o2))⟩)
      show (SX.S a).length + (SX.S b).length ≤ sizeLine
      rw [SX.S_len, SX.S_len]; exact lim_le hl
    · exact P.elim
  · rename_i a b e1 e2
    rw [e1] at s1; rw [e2] at s2
    split at P
    · rename_i hl
      obtain ⟨p, vs, rfl, h1, r1⟩ := s1
      obtain ⟨q, us, rfl, h2, r2⟩ := s2
      exact .inr (.inl ⟨p, q, vs, us, rfl, rfl, h1, h2, by rw [r1.length, r2.length]; exact lim_le hl, fun l hl => Post.laidL P C (r1.append r2) hl⟩)
    · exact P.elim
  · rename_i a b e1 e2
    rw [e1] at s1; rw [e2] at s2
    split at P
    · rename_i hl
      obtain ⟨p, vs, rfl, h1, r1⟩ := s1.tup
      obtain ⟨q, us, rfl, h2, r2⟩ := s2.tup
      refine .inr (.inr ⟨p, q, vs, us, rfl, rfl, Ex.t C.sub h1.sq, Ex.t C.sub h2.sq, by rw [r1.length, r2.length]; exact lim_le hl, fun e => ?_, fun _ e => ?_, fun _ _ l hl => Post.laidT P C (r1.append r2) hl⟩)
      · have ea : a = [] := by
          have := r1.length
          rw [e] at this
          exact List.eq_nil_of_length_eq_zero this.symm
        subst ea
        exact Post.now (C := Rep K) P C (Rep.of (by unfold RepF; exact ⟨q, us, rfl, h2, r2⟩))
      · have eb : b = [] := by
          have := r2.length
          rw [e] at this
          exact List.eq_nil_of_length_eq_zero this.symm
        subst eb
        rw [List.append_nil] at P
        exact Post.now (C := Rep K) P C (Rep.of (by unfold RepF; exact ⟨p, vs, rfl, h1, r1⟩))
    · exact P.elim
  · exact P.elim
/-! ### is -/
def isNG : Op2 := fun s x y => match y with
  | .non => match x with
    | .non => .val (.bl true) s
    | .ob _ => .stuck
    | _ => .val (.bl false) s
  | .bl b => match x with
    | .bl a => .val (.bl (a == b)) s
    | _ => .stuck
  | _ => .stuck
def isntG : Op2 := fun s x y => match y with
  | .non => match x with
    | .non => .val (.bl false) s
    | .ob _ => .stuck
    | _ => .val (.bl true) s
  | .bl b => match x with
    | .bl a => .val (.bl (!(a == b))) s
    | _ => .stuck
  | _ => .stuck
def rIsU : R2 := fun x y H Q => (y = .non ∧ Q (.bl (decide (x = .non))) H) ∨ rIsB x y H Q
def rIsntU : R2 := fun x y H Q => (y = .non ∧ Q (.bl (!decide (x = .non))) H) ∨ rNotB x y H Q
theorem op_isU {X : Cx} : OpR X (compareOp .Is) rIsU := op_isN.or op_isBl
theorem op_isntU {X : Cx} : OpR X (compareOp .IsNot) rIsntU := op_notN.or op_notBl
theorem Rep.notNon {K : PySem.W.Frag} {M : Hp} {ι : List Addr} {x : D} {v : V} (h : Rep K M ι x v) (hx : x ≠ .non) (ho : flat x = true) : v ≠ .non := by
  have h' := h.f ho
  cases x with
  | non => exact absurd rfl hx
  | ob k => cases ho
  | _ =>
    unfold RepF at h'
    first
      | (subst h'; exact fun z => nomatch z)
      | (obtain ⟨rfl, _⟩ := h'; exact fun z => nomatch z)
      | (obtain ⟨_, _, rfl, _⟩ := h'; exact fun z => nomatch z)
      | (obtain ⟨_, rfl, _⟩ := h'; exact fun z => nomatch z)
theorem ok_is {K : PySem.W.Frag} : Ok2 K rIsU isNG := fun Wx M ι s H x y u v Q C rx ry P => by
  unfold isNG at P
  split at P
  · split at P
    · cases rx.non
      exact .inl ⟨ry.non, Post.now (C := Rep K) P C rf_bl⟩
    · exact P.elim
    · rename_i h1 h2
      have hf : flat x = true := by cases x <;> first | rfl | exact absurd rfl (h2 _)
      refine .inl ⟨ry.non, ?_⟩
      rw [decide_eq_false (rx.notNon h1 hf)]
      exact Post.now (C := Rep K) P C rf_bl
  · split at P
    · refine .inr ⟨_, _, rx.bl, ry.bl, Post.now (C := Rep K) P C ?_⟩
      rename_i b _ a
      rw [show decide (a = b) = (a == b) by cases a <;> cases b <;> rfl]
      exact rf_bl
    · exact P.elim
  · exact P.elim
theorem ok_isnt {K : PySem.W.Frag} : Ok2 K rIsntU isntG := fun Wx M ι s H x y u v Q C rx ry P => by
  unfold isntG at P
  split at P
  · split at P
    · cases rx.non
      exact .inl ⟨ry.non, Post.now (C := Rep K) P C rf_bl⟩
    · exact P.elim
    · rename_i h1 h2
      have hf : flat x = true := by cases x <;> first | rfl | exact absurd rfl (h2 _)
      refine .inl ⟨ry.non, ?_⟩
      rw [decide_eq_false (rx.notNon h1 hf)]
      exact Post.now (C := Rep K) P C rf_bl
  · split at P
    · refine .inr ⟨_, _, rx.bl, ry.bl, Post.now (C := Rep K) P C ?_⟩
      rename_i b _ a
      rw [show decide (a = b) = (a == b) by cases a <;> cases b <;> rfl]
      exact rf_bl
    · exact P.elim
  · exact P.elim
/-! ### items -/
theorem RepL.atI {K : PySem.W.Frag} {M : Hp} {ds : List D} {vs : List V} (r : RepL K M ds vs) {i : Int} {d : D} (h : L2.atI ds i = some d) : ∃ v, L2.atI vs i = some v ∧ RepF K M d v := by
  unfold L2.atI at h ⊢
  rw [r.length]
  cases e : ixN ds.length i with
  | none => rw [e] at h; cases h
  | some j =>
    rw [e] at h
    exact r.get h
def ixG : Op2 := fun s x y => match view s x, y with
  | .lst ds, .int i => match atI ds i with
    | some d => .val d s
    | none => .stuck
  | .tup ds, .int i => match atI ds i with
    | some d => .val d s
    | none => .stuck
  | .str cs, .int i => if cs.length ≤ 16000000 then match atI cs i with
      | some c => .val (.str [c]) s
      | none => .stuck
    else .stuck
  | _, _ => .stuck
def rIxU (K : PySem.W.Frag) : R2 := fun x y H Q => (rIxL K x y H Q ∨ rIxT K x y H Q) ∨ rIxS x y H Q
theorem ix_U {X : Cx} : IxR X (rIxU X.K) := (ix_list.or ix_tup).or ix_str
theorem okS_mem {cs : List Nat} (h : okS cs = true) {c : Nat} (m : c ∈ cs) : okS [c] = true := by
  unfold okS at *
  simp only [List.all_eq_true, List.mem_singleton] at h ⊢
  rintro x rfl
  exact h _ m
theorem atI_mem {α : Type} {xs : List α} {i : Int} {v : α} (h : atI xs i = some v) : v ∈ xs := by
  obtain ⟨j, _, h2, _⟩ := atI_get h
  exact List.mem_of_getElem? h2
theorem ok_ix {K : PySem.W.Frag} : Ok2 K (rIxU K) ixG := fun Wx M ι s H x y u v Q C rx ry P => by
  have s1 := C.sees rx
  unfold ixG at P
  split at P
  · rename_i e
    rw [e] at s1
    split at P
    · rename_i d h
      obtain ⟨a, vs, rfl, h1, r1⟩ := s1
      obtain ⟨w, h2, h3⟩ := r1.atI h
      exact .inl (.inl ⟨a, vs, _, w, rfl, ry.int, SqL.of h1, h2, Post.now (C := Rep K) P C (Rep.of h3)⟩)
    · exact P.elim
  · rename_i e
    rw [e] at s1
    split at P
    · rename_i d h
      obtain ⟨a, vs, rfl, h1, r1⟩ := s1.tup
      obtain ⟨w, h2, h3⟩ := r1.atI h
      exact .inl (.inr ⟨a, vs, _, w, rfl, ry.int, Ex.t C.sub h1.sq, h2, Post.now (C := Rep K) P C (Rep.of h3)⟩)
    · exact P.elim
  · rename_i cs i e
    rw [e] at s1
    split at P
    · rename_i hl
      split at P
      · rename_i c h
        obtain ⟨rfl, o⟩ := s1.str
        refine .inr ⟨_, _, c, rfl, ry.int, ?_, ?_, Post.now (C := Rep K) P C (rf_str (okS_mem o (atI_mem h)))⟩
        · show (SX.S cs).length ≤ sizeLine
          rw [SX.S_len]; exact lim_le hl
        · simpa using h
      · exact P.elim
    · exact P.elim
  · exact P.elim
/-- o[i] = v -/
def setI (fo fi : EF) : GF := fun d δ s => (fo δ s).bind fun x s1 => (fi δ s1).bind fun y s2 => match x, y with
  | .ob k, .int i => match s2[k]? with
    | some (.lst ds) => match ixN ds.length i with
      | some j => if flat d = true then .val δ (s2.set k (.lst (ds.set j d))) else .stuck
      | none => .stuck
    | _ => .stuck
  | _, _ => .stuck
theorem Rep.ob {K : PySem.W.Frag} {M : Hp} {ι : List Addr} {k : Nat} {v : V} (h : Rep K M ι (.ob k) v) : ∃ a, v = .ref a ∧ ι[k]? = some a := h
theorem jg_set {X : Cx} {cl : Nat → Value} {o i : Expr} {pos : Pos} {fo fi : EF} (ho : JE X cl (fun _ _ _ _ => False) o fo) (hi : JE X cl (fun _ _ _ _ => False) i fi)
    (ha : ∀ v, assign (.Subscript o i pos) X.env v = (do
      let ov ← holding [v] (eval o X.env)
      let iv ← holding [v, ov] (eval i X.env)
      standAt pos
      holding [v, ov, iv] (setItem ov iv v)
      release [v, ov, iv] []) := by intro _; rfl) : JG X (.Subscript o i pos) (setI fo fi) := (pg_sub ho hi set_list ha).imp fun v σ H Q h => by
  obtain ⟨M, ι, δ, s, d, C, S, r, P⟩ := h
  refine ⟨M, ι, δ, s, C, S, Post.mono (Post.bind (Rep X.K) P) fun u H1 m => ?_⟩
  obtain ⟨M1, ι1, x, s1, t1, C1, r1, P1⟩ := m.ex
  refine ⟨M1, ι1, δ, s1, C1, S.step t1, Post.mono (Post.bind (Rep X.K) P1) fun w H2 m => ?_⟩
  obtain ⟨M2, ι2, y, s2, t2, C2, r2, P2⟩ := m.ex
  revert P2
  split
  · rename_i k i
    split
    · rename_i ds e
      split
      · rename_i j hj
        split
        · rename_i hf
          intro P2
          obtain ⟨a, rfl, hk⟩ := (r1.step t2).ob
          obtain ⟨hM, vs, h1, r3⟩ := C2.obs k a _ hk e
          refine ⟨a, vs, _, j, rfl, r2.int, h1, by rw [r3.length]; exact hj, ?_⟩
          have r4 : RepF X.K M2 d v := ((r.step t1).step t2).f hf
          obtain ⟨C3, t3⟩ := C2.put (o := .lst (vs.set j v)) (u := .lst (ds.set j d)) hk hM ⟨hM, _, upd_same, r3.set j r4⟩
          exact P2 M2 ι2 _ σ t3 C3 (((S.step t1).step t2).step t3)
        · exact fun P2 => P2.elim
      · exact fun P2 => P2.elim
    · exact fun P2 => P2.elim
  · exact fun P2 => P2.elim
/-! ### len, int, isinstance, list -/
def lenG (s : Sto) : List D → O D
  | [x] => match view s x with
    | .lst ds => .val (.int ds.length) s
    | .tup ds => .val (.int ds.length) s
    | .scr ds => .val (.int ds.length) s
    | .str cs => if cs.length ≤ 16000000 then .val (.int cs.length) s else .stuck
    | _ => .stuck
  | _ => .stuck
theorem Reps.one {K : PySem.W.Frag} {M : Hp} {ι : List Addr} {x : D} {us : List V} (h : Reps K M ι [x] us) : ∃ u, us = [u] ∧ Rep K M ι x u := by
  cases h with
  | cons a b => cases b; exact ⟨_, rfl, a⟩
theorem Reps.two {K : PySem.W.Frag} {M : Hp} {ι : List Addr} {x y : D} {us : List V} (h : Reps K M ι [x, y] us) : ∃ u w, us = [u, w] ∧ Rep K M ι x u ∧ Rep K M ι y w := by
  cases h with
  | cons a b => obtain ⟨w, rfl, c⟩ := b.one; exact ⟨_, w, rfl, a, c⟩
def rLenU (K : PySem.W.Frag) : List V → Hp → VK → Prop := fun xs H Q => ∃ x n, xs = [x] ∧ LenV K x H n ∧ Q (.int n) H
theorem ok_len {K : PySem.W.Frag} : OkN K (rLenU K) lenG := fun Wx M ι s H xs us Q C r P => by
  unfold lenG at P
  split at P
  · rename_i x
    obtain ⟨u, rfl, rx⟩ := r.one
    have s1 := C.sees rx
    split at P
    · rename_i ds e
      rw [e] at s1
      obtain ⟨a, vs, rfl, h1, r1⟩ := s1
      exact ⟨_, ds.length, rfl, .inl ⟨vs, SqL.of h1, r1.length.symm⟩, Post.now (C := Rep K) P C rf_int⟩
    · rename_i ds e
      rw [e] at s1
      obtain ⟨a, vs, rfl, h1, r1⟩ := s1.tup
      exact ⟨_, ds.length, rfl, .inr ⟨vs, Ex.t C.sub h1.sq, r1.length.symm⟩, Post.now (C := Rep K) P C rf_int⟩
    · rename_i ns e
      rw [e] at s1
      have s2 : RepF K M (.scr ns) u := s1
      unfold RepF at s2
      obtain ⟨a, rfl, h1⟩ := s2
      exact ⟨_, ns.length, rfl, .inl ⟨_, Ex.l C.sub h1, by simp⟩, Post.now (C := Rep K) P C rf_int⟩
    · rename_i cs e
      rw [e] at s1
      split at P
      · rename_i hl
        obtain ⟨rfl, o⟩ := s1.str
        refine ⟨_, cs.length, rfl, ?_, Post.now (C := Rep K) P C rf_int⟩
        exact ⟨by show (SX.S cs).length ≤ sizeLine; rw [SX.S_len]; exact lim_le hl, (SX.S_len cs).symm⟩
      · exact P.elim
    · exact P.elim
  · exact P.elim
def intOf (s : Sto) : List D → O D
  | [.bl b] => .val (.int (if b then 1 else 0)) s
  | [.int i] => .val (.int i) s
  | _ => .stuck
def rInt1 : List V → Hp → VK → Prop := fun xs H Q => (∃ i, xs = [.int i] ∧ Q (.int i) H) ∨ ∃ k, xs = [.bl k] ∧ Q (.int (if k then 1 else 0)) H
theorem ok_intOf {K : PySem.W.Frag} : OkN K rInt1 intOf := fun Wx M ι s H xs us Q C r P => by
  unfold intOf at P
  split at P
  · obtain ⟨u, rfl, rx⟩ := r.one
    exact .inr ⟨_, by rw [rx.bl], Post.now (C := Rep K) P C rf_int⟩
  · obtain ⟨u, rfl, rx⟩ := r.one
    exact .inl ⟨_, by rw [rx.int], Post.now (C := Rep K) P C rf_int⟩
  · exact P.elim
/-- the type of data, as told -/
def tyD : D → Option String
  | .non => some "NoneType"
  | .bl _ => some "bool"
  | .int _ => some "int"
  | .str _ => some "str"
  | .tup _ => some "tuple"
  | .lst _ => some "list"
  | .scr _ => some "list"
  | _ => none
def isT (d : D) (T : String) : Option Bool := match tyD d with
  | some t => kitB t T
  | none => none
theorem Sees.ty {K : PySem.W.Frag} {M H : Hp} (m : Ex M H) {d : D} {v : V} {t : String} (h : Sees K M H d v) (e : tyD d = some t) : TyX K H v (.type t) := by
  cases d with
  | non => cases e; have h' : RepF K M .non v := h; unfold RepF at h'; subst h'; exact .base .non
  | bl b => cases e; have h' : RepF K M (.bl b) v := h; unfold RepF at h'; subst h'; exact .base (.bl b)
  | int b => cases e; cases h.int; exact .base (.int b)
  | str b => cases e; obtain ⟨rfl, _⟩ := h.str; exact .base (.str _)
  | tup ds =>
    cases e
    obtain ⟨a, vs, rfl, h1, _⟩ := h.tup
    rcases h1 with h1 | ⟨o, its, n, h1, h2, _⟩
    · exact .base (.tup (m _ _ h1))
    · exact .kTuple h1 h2
  | lst ds => cases e; obtain ⟨a, vs, rfl, h1, _⟩ := h; exact .base (.lst h1)
  | scr ns =>
    cases e
    have h' : RepF K M (.scr ns) v := h
    unfold RepF at h'
    obtain ⟨a, rfl, h1⟩ := h'
    rcases h1 with (h1 | ⟨o, h1⟩) | ⟨o, its, n, h1, h2, _⟩
    · exact .base (.lst (m _ _ h1))
    · exact .base (.frz (m _ _ h1))
    · exact .kList h1 h2
  | ty _ => cases e
  | ob _ => cases e
def isiG (s : Sto) : List D → O D
  | [x, .ty T] => match isT (view s x) T with
    | some b => .val (.bl b) s
    | none => .stuck
  | [x, .tup [.ty T, .ty U]] => match isT (view s x) T with
    | some true => .val (.bl true) s
    | some false => match isT (view s x) U with
      | some b => .val (.bl b) s
      | none => .stuck
    | none => .stuck
  | _ => .stuck
def rIsiU (K : PySem.W.Frag) : List V → Hp → VK → Prop := fun xs H Q => rIsi K xs H Q ∨ rIsiT K xs H Q ∨ rIsiK K xs H Q
theorem CallR.or {X : Cx} {f : Value} {r r' : List V → Hp → VK → Prop} (h : CallR X f r) (h' : CallR X f r') : CallR X f (fun xs H Q => r xs H Q ∨ r' xs H Q) := by
  intro pins s σ H xs us Q I rs q
  rcases q with q | q
  · exact h pins s σ H xs us Q I rs q
  · exact h' pins s σ H xs us Q I rs q
theorem call_isiU {X : Cx} : CallR X (.builtin "isinstance") (rIsiU X.K) := CallR.or call_isi (CallR.or call_isiT call_isiK)
theorem kit_any2 {K : PySem.W.Frag} {t T U : String} {b b' : Bool} (h1 : kitB t T = some b) (h2 : b = false → kitB t U = some b') : PySem.W.kitAny K (.type t) [.type T, .type U] = some (b || b') := by
  refine kitAny_cons (kit_ty h1) (fun hb => ?_) fun hb => by rw [hb]; rfl
  rw [hb, Bool.false_or]
  refine kitAny_cons (kit_ty (h2 hb)) (fun hb' => ?_) fun hb' => hb'
  rw [hb']; rfl
theorem ok_isi {K : PySem.W.Frag} : OkN K (rIsiU K) isiG := fun Wx M ι s H xs us Q C r P => by
  unfold isiG at P
  split at P
  · rename_i x T
    obtain ⟨u, w, rfl, rx, rw'⟩ := r.two
    have s1 := C.sees rx
    have w1 : RepF K M (.ty T) w := rw'
    unfold RepF at w1
    subst w1
    split at P
    · rename_i b e
      unfold isT at e
      split at e
      · rename_i t et
        exact .inl ⟨u, .ty T, _, _, b, rfl, .ty T, s1.ty C.sub et, kit_ty e, Post.now (C := Rep K) P C rf_bl⟩
      · cases e
    · exact P.elim
  · rename_i x T U
    obtain ⟨u, w, rfl, rx, rw'⟩ := r.two
    have s1 := C.sees rx
    obtain ⟨a, vs, rfl, h1, r1⟩ := rw'.tup
    obtain ⟨v1, r2, rfl, q1, q2⟩ := r1.uncons
    obtain ⟨v2, r3, rfl, q3, q4⟩ := q2.uncons
    cases q4.unnil
    unfold RepF at q1 q3
    subst q1 q3
    have main : ∀ b : Bool, (∃ t, tyD (view s x) = some t ∧ PySem.W.kitAny K (.type t) [.type T, .type U] = some b) → Q (.bl b) H → rIsiU K [u, .ref a] H Q := by
      rintro b ⟨t, et, hk⟩ q
      rcases h1 with h1 | ⟨o, its, n, h1, h2, h3, h4, h5⟩
      · exact .inr (.inl ⟨u, a, _, _, _, b, rfl, C.sub _ _ h1, .cons (.ty T) (.cons (.ty U) .nil), s1.ty C.sub et, hk, q⟩)
      · obtain ⟨oc, od, dt, sl⟩ := o
        simp only at h2 h3
        subst h2 h3
        have e5 : its.toList = [.type T, .type U] := ClsV.all (.cons (.ty T) (.cons (.ty U) .nil)) h5
        have e6 : its = ([Value.type T, .type U] : List Value).toArray := by rw [← e5]
        subst e6
        exact .inr (.inr ⟨u, a, od, _, n, sl, _, b, rfl, h1, s1.ty C.sub et, hk, q⟩)
    unfold isT at P
    split at P
    · rename_i e
      split at e
      · rename_i t et
        exact main true ⟨t, et, kit_any2 (b' := true) e (fun z => nomatch z)⟩ (Post.now (C := Rep K) P C rf_bl)
      · cases e
    · rename_i e
      split at e
      · rename_i t et
        rw [et] at P
        split at P
        · rename_i b e2
          exact main b ⟨t, et, by have := kit_any2 (K := K) e (fun _ => e2); simpa using this⟩ (Post.now (C := Rep K) P C rf_bl)
        · exact P.elim
      · cases e
    · exact P.elim
  · exact P.elim
/-- list(x), one that stands for good -/
def listF (s : Sto) : List D → O D
  | [x] => match view s x with
    | .lst ds => .val (.lst ds) s
    | .tup ds => .val (.lst ds) s
    | .scr ns => .val (.lst (ns.map D.int)) s
    | _ => .stuck
  | _ => .stuck
def rListU (K : PySem.W.Frag) : List V → Hp → VK → Prop := fun xs H Q => ∃ p ys, xs = [.ref p] ∧ (SqL K H p ys ∨ SqT K H p ys) ∧ ∀ l, H l = none → Q (.ref l) (upd H l (.lst ys))
theorem RepL.ints {K : PySem.W.Frag} {M : Hp} : ∀ ns : List Int, RepL K M (ns.map D.int) (ns.map V.int)
  | [] => .nil
  | n :: ns => .cons (by unfold RepF; rfl) (RepL.ints ns)
theorem ok_list {K : PySem.W.Frag} : OkN K (rListU K) listF := fun Wx M ι s H xs us Q C r P => by
  unfold listF at P
  split at P
  · obtain ⟨u, rfl, rx⟩ := r.one
    have s1 := C.sees rx
    split at P
    · rename_i ds e
      rw [e] at s1
      obtain ⟨a, vs, rfl, h1, r1⟩ := s1
      exact ⟨a, vs, rfl, .inl (SqL.of h1), fun l hl => Post.laidL P C r1 hl⟩
    · rename_i ds e
      rw [e] at s1
      obtain ⟨a, vs, rfl, h1, r1⟩ := s1.tup
      exact ⟨a, vs, rfl, .inr (Ex.t C.sub h1.sq), fun l hl => Post.laidL P C r1 hl⟩
    · rename_i ns e
      rw [e] at s1
      have s2 : RepF K M (.scr ns) u := s1
      unfold RepF at s2
      obtain ⟨a, rfl, h1⟩ := s2
      exact ⟨a, _, rfl, .inl (Ex.l C.sub h1), fun l hl => Post.laidL P C (RepL.ints ns) hl⟩
    · exact P.elim
  · exact P.elim
end Fl
set_option Elab.async false
set_option linter.all false
set_option maxRecDepth 100000
namespace Fl
open PySem PySem.Spec PyProof.Rows L2
abbrev W0 : WX := fun _ _ _ _ => False
section
variable {X : Cx} {cl : Nat → Value} {W : WX} {st : Stmt} {sts : List Stmt} {e a b : Expr} {es : List Expr} {fa fb : EF} {fr : AF} {ff fg : SF} {pos : Pos}
/-! ### small statements -/
theorem rd_go {α β : Type} {K : PySem.W.Frag} (C : Car α β) {D : Ends} {f : Sl → Sto → O α} {k : Sl → α → Sto → OS} {σ : L2.St} {H : Hp} (h : rdS K cl W (fun δ s => (f δ s).go δ (k δ)) D σ H) :
    At K C (wx cl W σ) f σ H fun b H' => ∃ M ι δ s a, Conc K M ι s H' ∧ RepS K M ι δ σ ∧ C M ι a b ∧ PostS K cl W D M ι H' (k δ a s) := by
  obtain ⟨M, ι, δ, s, Cc, S, P⟩ := h
  refine ⟨M, ι, δ, s, Cc, S, Post.mono (PostS.go C S P) fun b H' m => ?_⟩
  obtain ⟨M', ι', a, s', t, C', r, P'⟩ := m.ex
  exact ⟨M', ι', δ, s', a, C', S.step t, r, P'⟩
def setS (i : Nat) (f : EF) : SF := fun δ s => (f δ s).go δ fun d s1 => .nx (δ.set i (some d)) s1
theorem rd_set {K : PySem.W.Frag} {te : TE} {f : EF} {i : Nat} (imp : ∀ σ H Q, rdE K cl W f σ H Q → te σ H Q) (D : Ends) (σ : L2.St) (H : Hp) (h : rdS K cl W (setS i f) D σ H) : tAsg te (gName i) D σ H := by
  obtain ⟨M, ι, δ, s, C, S, P⟩ := rd_go (Rep K) h
  refine imp σ H _ ⟨M, ι, δ, s, C, S, Post.mono P fun v H1 h => ?_⟩
  obtain ⟨M1, ι1, δ1, s1, d, C1, S1, r1, P1⟩ := h
  exact P1 M1 ι1 H1 _ Step.refl C1 (S1.set r1 i)
theorem js_set {i : Nat} {x : Str} {pos' : Pos} (hN : X.N.Nodup) (he : JE X cl W e fa) (hi : X.N[i]? = some x := by rfl) (hx : Loc X.env.scope x := by first | exact Or.inl rfl | exact Or.inr rfl) (hs : swapsWith e (some (.Name x pos')) pos.line X.env = pure false := by rfl)
    (hf : X.fn x = true ∨ X.env.scope.names.lookup x = some .local := by first | exact .inl rfl | exact .inr rfl | assumption) : JS X cl W (.Assign [.Name x pos'] e pos) (setS i fa) :=
  (ps_set hN hi hx he hs hf).imp fun D σ H h => rd_set (fun _ _ _ q => q) D σ H h
def asgS (f : EF) (g : GF) : SF := fun δ s => (f δ s).go δ fun d s1 => (g d δ s1).go δ fun δ' s2 => .nx δ' s2
theorem PostS.tg {K : PySem.W.Frag} {D : Ends} {M : Hp} {ι : List Addr} {H : Hp} {o : O Sl} {δ : Sl} {k : Sl → Sto → OS} (h : PostS K cl W D M ι H (o.go δ k)) (nx : ∀ c s, o ≠ .exc c s) : Post K (RepS K) (fun _ _ => False) M ι H o fun σ' H' => ∃ M' ι' δ' s', Step M ι H M' ι' H' ∧ Conc K M' ι' s' H' ∧ RepS K M' ι' δ' σ' ∧ PostS K cl W D M' ι' H' (k δ' s') := by
  cases o with
  | stuck => exact h
  | val δ' s' => exact fun M' ι' H' σ' t c r => ⟨M', ι', δ', s', t, c, r, PostS.step h t⟩
  | exc c s => exact absurd rfl (nx c s)
/-- a target raises nothing -/
def noX (o : O Sl) : O Sl := match o with
  | .exc _ _ => .stuck
  | o => o
theorem noX_ne {o : O Sl} : ∀ c s, noX o ≠ .exc c s := fun c s => by cases o <;> simp [noX]
theorem Post.noX {K : PySem.W.Frag} {C : Car Sl L2.St} {Wx Wx' : Nat → Hp → Prop} {M : Hp} {ι : List Addr} {H : Hp} {o : O Sl} {Q : L2.St → Hp → Prop} (h : Post K C Wx M ι H (noX o) Q) : Post K C Wx' M ι H o Q := by
  cases o with
  | stuck => exact h
  | val a s => exact h
  | exc c s => exact h.elim
def asgS' (f : EF) (g : GF) : SF := fun δ s => (f δ s).go δ fun d s1 => (noX (g d δ s1)).go δ fun δ' s2 => .nx δ' s2
theorem js_asg {tg : Expr} {g : GF} (he : JE X cl W e fa) (hg : JG X tg g) (hs : swapsWithSole [tg] e pos.line X.env = pure false := by rfl) (hw : swappedStores [tg] e X.env = pure none := by rfl)
    (h1 : (assignEach [tg] X.env).map (·.2) = [assign tg X.env] := by rfl) : JS X cl W (.Assign [tg] e pos) (asgS' fa g) := (ps_asg he hg hs hw h1).imp fun D σ H h => by
  obtain ⟨M, ι, δ, s, C, S, P⟩ := rd_go (Rep X.K) h
  refine ⟨M, ι, δ, s, C, S, Post.mono P fun v H1 h => ?_⟩
  obtain ⟨M1, ι1, δ1, s1, d, C1, S1, r1, P1⟩ := h
  refine ⟨M1, ι1, δ1, s1, d, C1, S1, r1, Post.noX (Post.mono (PostS.tg P1 noX_ne) fun σ' H' h => ?_)⟩
  obtain ⟨M2, ι2, δ2, s2, t2, C2, S2, P2⟩ := h
  exact P2 M2 ι2 H' σ' Step.refl C2 S2
def nameG (i : Nat) : GF := fun d δ s => .val (δ.set i (some d)) s
theorem jg_name {i : Nat} {x : Str} {p : Pos} (hN : X.N.Nodup) (hi : X.N[i]? = some x := by rfl) (hx : Loc X.env.scope x := by first | exact Or.inl rfl | exact Or.inr rfl) (hf : X.fn x = true ∨ X.env.scope.names.lookup x = some .local := by first | exact .inl rfl | exact .inr rfl | assumption) :
    JG X (.Name x p) (nameG i) := (pg_name hN hi hx hf).imp fun v σ H Q h => by
  obtain ⟨M, ι, δ, s, d, C, S, r, P⟩ := h
  exact Post.now (C := RepS X.K) P C (S.set r i)
/-- several targets -/
def unp : List GF → List D → Sl → Sto → O Sl
  | [], [], δ, s => .val δ s
  | g :: gs, d :: ds, δ, s => (noX (g d δ s)).bind fun δ1 s1 => unp gs ds δ1 s1
  | _, _, _, _ => .stuck
def rdGs (K : PySem.W.Frag) (gs : List GF) : TGs := fun vs σ H Q => ∃ M ι δ s ds, Conc K M ι s H ∧ RepS K M ι δ σ ∧ Reps K M ι ds vs ∧ Post K (RepS K) (fun _ _ => False) M ι H (unp gs ds δ s) Q
abbrev JGs (X : Cx) (es : List Expr) (gs : List GF) : Prop := PGs X es (rdGs X.K gs)
theorem _root_.L2.PGs.imp {es : List Expr} {t t' : TGs} (h : PGs X es t) (i : ∀ v σ H Q, t' v σ H Q → t v σ H Q) : PGs X es t' := ⟨fun pins s σ H v u Q I r q => h.run pins s σ H v u Q I r (i v σ H Q q)⟩
theorem jgs_nil : JGs X [] [] := pgs_nil.imp fun vs σ H Q h => by
  obtain ⟨M, ι, δ, s, ds, C, S, r, P⟩ := h
  cases r with
  | nil => exact ⟨rfl, Post.now (C := RepS X.K) P C S⟩
  | cons _ _ => exact P.elim
theorem jgs_cons {g : GF} {gs : List GF} (h1 : JG X e g) (h2 : JGs X es gs) (hs : (assignEach (e :: es) X.env).map (·.2) = assign e X.env :: (assignEach es X.env).map (·.2) := by rfl) : JGs X (e :: es) (g :: gs) := (pgs_cons h1 h2 hs).imp fun vs σ H Q h => by
  obtain ⟨M, ι, δ, s, ds, C, S, r, P⟩ := h
  cases r with
  | nil => exact P.elim
  | cons r1 r2 =>
    refine ⟨_, _, rfl, M, ι, δ, s, _, C, S, r1, Post.noX (Post.mono (Post.bind (RepS X.K) P) fun σ' H' m => ?_)⟩
    obtain ⟨M1, ι1, δ1, s1, t1, C1, S1, P1⟩ := m.ex
    exact ⟨M1, ι1, δ1, s1, _, C1, S1, r2.step t1, P1⟩
def tupG (gs : List GF) : GF := fun d δ s => match d with
  | .tup ds => if ds.length = gs.length then unp gs ds δ s else .stuck
  | _ => .stuck
theorem jg_tup {gs : List GF} {k : Nat} (hc : X.calm = true) (h : JGs X es gs) (hn : (assignEach es X.env).length = gs.length := by rfl) (hst : (assignEach es X.env).findIdx? (·.1) = none := by rfl) : JG X (.Tuple es k pos) (tupG gs) := (pg_tup hc h hn hst).imp fun v σ H Q h => by
  obtain ⟨M, ι, δ, s, d, C, S, r, P⟩ := h
  unfold tupG at P
  split at P
  · split at P
    · rename_i ds hl
      obtain ⟨p, vs, rfl, h1, r1⟩ := r.tup
      exact ⟨p, vs, rfl, Ex.t C.sub h1.sq, by rw [r1.length]; exact hl, M, ι, δ, s, ds, C, S, Reps.of r1, P⟩
    · exact P.elim
  · exact P.elim
def parS (i j : Nat) (f : AF) : SF := fun δ s => (f δ s).go δ fun ds s1 => match ds with
  | [x, y] => .nx ((δ.set i (some x)).set j (some y)) s1
  | _ => .stuck
theorem js_par {i j : Nat} {x y : Str} {px py pt : Pos} {kt k2 : Nat} {pt2 : Pos} (hc : X.calm = true) (hN : X.N.Nodup) (hij : i ≠ j) (ha : JA X cl W [a, b] fr) (hi : X.N[i]? = some x := by rfl) (hj : X.N[j]? = some y := by rfl)
    (hx : X.env.scope.names.lookup x = some .local := by rfl) (hy : X.env.scope.names.lookup y = some .local := by rfl)
    (hw : swappedStores [.Tuple [.Name x px, .Name y py] kt pt] (.Tuple [a, b] k2 pt2) X.env = pure (some [x, y]) := by rfl)
    (hs : swapsWithSole [.Tuple [.Name x px, .Name y py] kt pt] (.Tuple [a, b] k2 pt2) pos.line X.env = pure false := by rfl) :
    JS X cl W (.Assign [.Tuple [.Name x px, .Name y py] kt pt] (.Tuple [a, b] k2 pt2) pos) (parS i j fr) := (ps_par hc hN hi hj hij hx hy ha hw hs).imp fun D σ H h => by
  obtain ⟨M, ι, δ, s, C, S, P⟩ := rd_go (Reps X.K) h
  refine ⟨M, ι, δ, s, C, S, Post.mono P fun vs H1 h => ?_⟩
  obtain ⟨M1, ι1, δ1, s1, ds, C1, S1, r1, P1⟩ := h
  split at P1
  · obtain ⟨u, w, rfl, r2, r3⟩ := r1.two
    exact ⟨u, w, rfl, P1 M1 ι1 H1 _ Step.refl C1 ((S1.set r2 i).set r3 j)⟩
  · exact P1.elim
def par3S (i j l : Nat) (f : AF) : SF := fun δ s => (f δ s).go δ fun ds s1 => match ds with
  | [x, y, z] => .nx (((δ.set i (some x)).set j (some y)).set l (some z)) s1
  | _ => .stuck
theorem Reps.three {K : PySem.W.Frag} {M : Hp} {ι : List Addr} {x y z : D} {us : List V} (h : Reps K M ι [x, y, z] us) : ∃ u v w, us = [u, v, w] ∧ Rep K M ι x u ∧ Rep K M ι y v ∧ Rep K M ι z w := by
  cases h with
  | cons a b => obtain ⟨v, w, rfl, c, d⟩ := b.two; exact ⟨_, v, w, rfl, a, c, d⟩
theorem js_par3 {c : Expr} {i j l : Nat} {x y z : Str} {px py pz pt : Pos} {kt k2 : Nat} {pt2 : Pos} (hc : X.calm = true) (hN : X.N.Nodup) (hij : i ≠ j) (hil : i ≠ l) (hjl : j ≠ l) (ha : JA X cl W [a, b, c] fr) (hi : X.N[i]? = some x := by rfl) (hj : X.N[j]? = some y := by rfl) (hl : X.N[l]? = some z := by rfl)
    (hx : X.env.scope.names.lookup x = some .local := by rfl) (hy : X.env.scope.names.lookup y = some .local := by rfl) (hz : X.env.scope.names.lookup z = some .local := by rfl)
    (hw : swappedStores [.Tuple [.Name x px, .Name y py, .Name z pz] kt pt] (.Tuple [a, b, c] k2 pt2) X.env = pure (some [x, y, z]) := by rfl)
    (hs : swapsWithSole [.Tuple [.Name x px, .Name y py, .Name z pz] kt pt] (.Tuple [a, b, c] k2 pt2) pos.line X.env = pure false := by rfl) :
    JS X cl W (.Assign [.Tuple [.Name x px, .Name y py, .Name z pz] kt pt] (.Tuple [a, b, c] k2 pt2) pos) (par3S i j l fr) := (ps_par3 hc hN hi hj hl hij hil hjl hx hy hz ha hw hs).imp fun D σ H h => by
  obtain ⟨M, ι, δ, s, C, S, P⟩ := rd_go (Reps X.K) h
  refine ⟨M, ι, δ, s, C, S, Post.mono P fun vs H1 h => ?_⟩
  obtain ⟨M1, ι1, δ1, s1, ds, C1, S1, r1, P1⟩ := h
  split at P1
  · obtain ⟨u, v, w, rfl, r2, r3, r4⟩ := r1.three
    exact ⟨u, v, w, rfl, P1 M1 ι1 H1 _ Step.refl C1 (((S1.set r2 i).set r3 j).set r4 l)⟩
  · exact P1.elim
/-- x -= e, x += e of ints -/
def augS (g : Int → Int → Int) (i : Nat) (f : EF) : SF := fun δ s => match δ[i]? with
  | some (some (.int x)) => (f δ s).go δ fun d s1 => match d with
    | .int y => .nx (δ.set i (some (.int (g x y)))) s1
    | _ => .stuck
  | _ => .stuck
theorem js_aug {i : Nat} {x : Str} {op : Operator} {g : Int → Int → Int} {pos' : Pos} (hN : X.N.Nodup) (ho : PIp X op (ipI g)) (he : JE X cl W e fa) (hi : X.N[i]? = some x := by rfl) (hx : Loc X.env.scope x := by first | exact Or.inl rfl | exact Or.inr rfl)
    (hf : X.fn x = true ∨ X.env.scope.names.lookup x = some .local := by first | exact .inl rfl | exact .inr rfl | assumption) : JS X cl W (.AugAssign (.Name x pos') op e pos) (augS g i fa) := (ps_aug hN hi hx he ho hf).imp fun D σ H h => by
  obtain ⟨M, ι, δ, s, C, S, P⟩ := h
  unfold augS at P
  split at P
  · rename_i x e
    obtain ⟨v, h1, h2⟩ := S.2 i _ e
    cases h2.int
    refine ⟨_, h1, M, ι, δ, s, C, S, Post.mono (PostS.go (Rep X.K) S P) fun u H1 m => ?_⟩
    obtain ⟨M1, ι1, d, s1, t1, C1, r1, P1⟩ := m.ex
    split at P1
    · cases r1.int
      exact ⟨_, _, rfl, rfl, P1 M1 ι1 H1 _ Step.refl C1 ((S.step t1).set rf_int i)⟩
    · exact P1.elim
  · exact P.elim
def dropS (f : EF) : SF := fun δ s => (f δ s).go δ fun _ s1 => .nx δ s1
theorem js_expr (he : JE X cl W e fa) (hs : swapsWith e none pos.line X.env = pure false := by rfl) : JS X cl W (.Expr e pos) (dropS fa) := (ps_expr he hs).imp fun D σ H h => by
  obtain ⟨M, ι, δ, s, C, S, P⟩ := rd_go (Rep X.K) h
  refine ⟨M, ι, δ, s, C, S, Post.mono P fun v H1 h => ?_⟩
  obtain ⟨M1, ι1, δ1, s1, d, C1, S1, r1, P1⟩ := h
  exact P1 M1 ι1 H1 _ Step.refl C1 S1
def retS (f : EF) : SF := fun δ s => (f δ s).go δ fun d s1 => .rt d s1
theorem js_ret (he : JE X cl W e fa) : JS X cl W (.Return (some e) pos) (retS fa) := (ps_ret he).imp fun D σ H h => by
  obtain ⟨M, ι, δ, s, C, S, P⟩ := rd_go (Rep X.K) h
  refine ⟨M, ι, δ, s, C, S, Post.mono P fun v H1 h => ?_⟩
  obtain ⟨M1, ι1, δ1, s1, d, C1, S1, r1, P1⟩ := h
  exact P1 M1 ι1 H1 _ Step.refl C1 r1
def passS : SF := fun δ s => .nx δ s
def brkS : SF := fun δ s => .bk δ s
def ctS : SF := fun δ s => .ct δ s
def retN : SF := fun _ s => .rt .non s
theorem js_pass : JS X cl W (.Pass pos) passS := ps_pass.imp fun D σ H h => by
  obtain ⟨M, ι, δ, s, C, S, P⟩ := h
  exact P M ι H σ Step.refl C S
theorem js_brk : JS X cl W (.Break pos) brkS := ps_break.imp fun D σ H h => by
  obtain ⟨M, ι, δ, s, C, S, P⟩ := h
  exact P M ι H σ Step.refl C S
theorem js_ct : JS X cl W (.Continue pos) ctS := ps_continue.imp fun D σ H h => by
  obtain ⟨M, ι, δ, s, C, S, P⟩ := h
  exact P M ι H σ Step.refl C S
theorem js_retN : JS X cl W (.Return none pos) retN := ps_retN.imp fun D σ H h => by
  obtain ⟨M, ι, δ, s, C, S, P⟩ := h
  exact P M ι H .non Step.refl C rf_non
/-! ### blocks, if -/
def seqS (f g : SF) : SF := fun δ s => (f δ s).then g
theorem PostS.then {K : PySem.W.Frag} {D : Ends} {M : Hp} {ι : List Addr} {H : Hp} {o : OS} {g : SF} (h : PostS K cl W D M ι H (o.then g)) : PostS K cl W { D with nx := rdS K cl W g D } M ι H o := by
  cases o with
  | nx δ s => exact fun M' ι' H' σ' t c r => ⟨M', ι', δ, s, c, r, PostS.step h t⟩
  | _ => exact h
theorem jss_nil : JSs X cl W [] passS := pss_nil.imp fun D σ H h => by
  obtain ⟨M, ι, δ, s, C, S, P⟩ := h
  exact P M ι H σ Step.refl C S
theorem jss_one (h : JS X cl W st ff) : JSs X cl W [st] ff := pss_one h
theorem jss_cons (h : JS X cl W st ff) (h2 : JSs X cl W sts fg) : JSs X cl W (st :: sts) (seqS ff fg) := (pss_cons h h2).imp fun D σ H h => by
  obtain ⟨M, ι, δ, s, C, S, P⟩ := h
  exact ⟨M, ι, δ, s, C, S, PostS.then P⟩
def ifS (t : BF) (f g : SF) : SF := fun δ s => (t δ s).go δ fun b s1 => if b = true then f δ s1 else g δ s1
theorem js_if {c : Expr} {sa sb : List Stmt} {t : BF} (hc : JT X cl W c t) (ha : JSs X cl W sa ff) (hb : JSs X cl W sb fg) : JS X cl W (.If c sa sb pos) (ifS t ff fg) := (ps_if hc ha hb).imp fun D σ H h => by
  obtain ⟨M, ι, δ, s, C, S, P⟩ := rd_go CB h
  refine ⟨M, ι, δ, s, C, S, Post.mono P fun b H1 h => ?_⟩
  obtain ⟨M1, ι1, δ1, s1, d, C1, S1, rfl, P1⟩ := h
  cases b with
  | true => exact iteT ⟨M1, ι1, δ1, s1, C1, S1, P1⟩
  | false => exact iteF ⟨M1, ι1, δ1, s1, C1, S1, P1⟩
/-! ### what a loop walks -/
def ItOk (K : PySem.W.Frag) (M : Hp) (J : It) (xs : List D) : Prop := ∀ (i : Nat) (M1 : Hp) (ι1 : List Addr) (s1 : Sto) (H1 : Hp), Ex M M1 → Conc K M1 ι1 s1 H1 →
  (∀ d, xs[i]? = some d → J.go i H1 ∧ ∀ v H2, J.yld i H1 v H2 → ∃ M2, Step M1 ι1 H1 M2 ι1 H2 ∧ Conc K M2 ι1 s1 H2 ∧ Rep K M2 ι1 d v) ∧ (xs.length ≤ i → J.stop i H1)
abbrev CI (K : PySem.W.Frag) : Car (List D) It := fun M _ xs J => ItOk K M J xs
def rdI (K : PySem.W.Frag) (cl : Nat → Value) (W : WX) (f : AF) : TI := fun σ H R => At K (CI K) (wx cl W σ) f σ H R
abbrev JI (X : Cx) (cl : Nat → Value) (W : WX) (tg e : Expr) (f : AF) : Prop := PI X tg e (rdI X.K cl W f)
theorem _root_.L2.PI.imp {tg e : Expr} {t t' : TI} (h : PI X tg e t) (i : ∀ σ H Q, t' σ H Q → t σ H Q) : PI X tg e t' := ⟨fun pins s σ H Q I q => h.run pins s σ H Q I (i σ H Q q)⟩
def loopS (g : GF) (body : SF) : List D → Sl → Sto → OS
  | [], δ, s => .nx δ s
  | x :: xs, δ, s => (noX (g x δ s)).go δ fun δ1 s1 => match body δ1 s1 with
    | .nx δ2 s2 => loopS g body xs δ2 s2
    | .ct δ2 s2 => loopS g body xs δ2 s2
    | .bk δ2 s2 => .nx δ2 s2
    | o => o
def forS (fi : AF) (g : GF) (body : SF) : SF := fun δ s => (fi δ s).go δ fun xs s1 => loopS g body xs δ s1
theorem rd_for {K : PySem.W.Frag} {fi : AF} {g : GF} {body : SF} (D : Ends) (σ : L2.St) (H : Hp) (h : rdS K cl W (forS fi g body) D σ H) : tFor (rdI K cl W fi) (rdG K g) (rdS K cl W body) D σ H := by
  obtain ⟨M, ι, δ, s, C, S, P⟩ := rd_go (CI K) h
  refine ⟨M, ι, δ, s, C, S, Post.mono P fun J H1 h => ?_⟩
  obtain ⟨M1, ι1, δ1, s1, xs, C1, S1, ok, P1⟩ := h
  refine ⟨fun i m σ H => m = xs.length - i ∧ i ≤ xs.length ∧ ∃ M' ι' δ' s', Ex M1 M' ∧ Conc K M' ι' s' H ∧ RepS K M' ι' δ' σ ∧ PostS K cl W D M' ι' H (loopS g body (xs.drop i) δ' s'), ⟨xs.length, by simp, Nat.zero_le _, M1, ι1, δ1, s1, Ex.refl _, C1, S1, P1⟩, ?_⟩
  rintro i m σ H ⟨rfl, hi, M', ι', δ', s', e', C', S', P'⟩
  obtain ⟨ok1, ok2⟩ := ok i M' ι' s' H e' C'
  by_cases hlt : i < xs.length
  · have hx : xs[i]? = some xs[i] := List.getElem?_eq_getElem hlt
    obtain ⟨go, yl⟩ := ok1 _ hx
    rw [List.drop_eq_getElem_cons hlt] at P'
    refine .inr ⟨go, fun σ H => ∃ M2 ι2 δ2 s2, Ex M1 M2 ∧ Conc K M2 ι2 s2 H ∧ RepS K M2 ι2 δ2 σ ∧ PostS K cl W D M2 ι2 H (loopS g body (xs.drop (i + 1)) δ2 s2), fun σ' H' w => ⟨xs.length - (i + 1), by omega, rfl, hlt, w⟩, fun v H2 hy => ?_⟩
    obtain ⟨M2, t2, C2, r2⟩ := yl v H2 hy
    refine ⟨M2, ι', δ', s', xs[i], C2, S'.step t2, r2, Post.noX (Post.mono (PostS.tg (PostS.step P' t2) noX_ne) fun σ3 H3 h => ?_)⟩
    obtain ⟨M3, ι3, δ3, s3, t3, C3, S3, P3⟩ := h
    refine ⟨M3, ι3, δ3, s3, C3, S3, ?_⟩
    have e3 : Ex M1 M3 := Ex.trans e' (Ex.trans t2.mm t3.mm)
    revert P3
    cases body δ3 s3 with
    | stuck => exact fun P3 => P3
    | nx δ4 s4 => exact fun P3 M4 ι4 H4 σ4 t4 C4 S4 => ⟨M4, ι4, δ4, s4, Ex.trans e3 t4.mm, C4, S4, PostS.step P3 t4⟩
    | ct δ4 s4 => exact fun P3 M4 ι4 H4 σ4 t4 C4 S4 => ⟨M4, ι4, δ4, s4, Ex.trans e3 t4.mm, C4, S4, PostS.step P3 t4⟩
    | bk δ4 s4 => exact fun P3 => P3
    | rt d s4 => exact fun P3 => P3
    | exc c δ4 s4 => exact fun P3 => P3
  · have e : i = xs.length := by omega
    refine .inl ⟨ok2 (by omega), ?_⟩
    rw [e, List.drop_length] at P'
    exact P' M' ι' H σ Step.refl C' S'
theorem js_for {tg iter : Expr} {body : List Stmt} {fi : AF} {g : GF} (hp : PassesOwn (model X.prog X.w) X.A X.env X.xe) (hc : X.calm = true) (hi : JI X cl W tg iter fi) (hg : JG X tg g) (hb : JSs X cl W body ff)
    (hs : ∀ x, foldedSetIterable iter X.env x = pure x := by intro _; rfl) : JS X cl W (.For tg iter body [] pos) (forS fi g ff) := (ps_for hp hc hi hg hb hs).imp fun D σ H h => rd_for D σ H h
/-- a list, a tuple, a text, as what it is walked by -/
def walkF (f : EF) : AF := fun δ s => (f δ s).bind fun d s1 => match d with
  | .lst ds => .val ds s1
  | .tup ds => .val ds s1
  | .str cs => .val (cs.map fun c => .str [c]) s1
  | _ => .stuck
def listF' (f : EF) : AF := fun δ s => (f δ s).bind fun d s1 => match d with
  | .lst ds => .val ds s1
  | _ => .stuck
def tupF' (f : EF) : AF := fun δ s => (f δ s).bind fun d s1 => match d with
  | .tup ds => .val ds s1
  | _ => .stuck
def strF' (f : EF) : AF := fun δ s => (f δ s).bind fun d s1 => match d with
  | .str cs => .val (cs.map fun c => .str [c]) s1
  | _ => .stuck
theorem itOk_list {K : PySem.W.Frag} {M : Hp} {a : Addr} {vs : List V} {ds : List D} (h : M a = some (.lst vs)) (r : RepL K M ds vs) : ItOk K M (Itl K a) ds := by
  intro i M1 ι1 s1 H1 e C
  have hH : H1 a = some (.lst vs) := C.sub _ _ (e _ _ h)
  constructor
  · intro d hd
    obtain ⟨v, h1, h2⟩ := r.get hd
    refine ⟨⟨vs, v, SqL.of hH, h1⟩, fun v' H2 y => ?_⟩
    obtain ⟨rfl, y⟩ := y
    have := y vs (SqL.of hH)
    rw [h1] at this; cases this
    exact ⟨M1, Step.refl, C, Rep.of (h2.mono e)⟩
  · intro hi
    exact ⟨vs, SqL.of hH, by rw [r.length]; exact hi⟩
theorem itOk_tup {K : PySem.W.Frag} {M : Hp} {a : Addr} {vs : List V} {ds : List D} (h : TupAt K M a vs) (r : RepL K M ds vs) : ItOk K M (Itt K a) ds := by
  intro i M1 ι1 s1 H1 e C
  have hH : SqT K H1 a vs := Ex.t C.sub (Ex.t e h.sq)
  constructor
  · intro d hd
    obtain ⟨v, h1, h2⟩ := r.get hd
    refine ⟨⟨vs, v, hH, h1⟩, fun v' H2 y => ?_⟩
    obtain ⟨rfl, y⟩ := y
    have := y vs hH
    rw [h1] at this; cases this
    exact ⟨M1, Step.refl, C, Rep.of (h2.mono e)⟩
  · intro hi
    exact ⟨vs, hH, by rw [r.length]; exact hi⟩
theorem itOk_str {K : PySem.W.Frag} {M : Hp} {cs : List Nat} (o : okS cs = true) : ItOk K M (Its ⟨cs.toArray⟩) (cs.map fun c => .str [c]) := by
  intro i M1 ι1 s1 H1 e C
  constructor
  · intro d hd
    rw [List.getElem?_map] at hd
    obtain ⟨c, h1, rfl⟩ := Option.map_eq_some_iff.mp hd
    refine ⟨(by have := (List.getElem?_eq_some_iff.mp h1).1; simpa using this : i < cs.toArray.size), fun v' H2 y => ?_⟩
    obtain ⟨rfl, c', h2, rfl⟩ := y
    have : c' = c := by
      simp at h2
      rw [h1] at h2
      exact (Option.some.inj h2).symm
    subst this
    exact ⟨M1, Step.refl, C, rf_str (okS_mem o (List.mem_of_getElem? h1))⟩
  · intro hi
    show cs.toArray.size ≤ i
    simpa using hi
theorem ji_list {tg : Expr} (h : JE X cl W e fa) : JI X cl W tg e (listF' fa) := (pi_list h).imp fun σ H R h => by
  obtain ⟨M, ι, δ, s, C, S, P⟩ := h
  refine ⟨M, ι, δ, s, C, S, Post.mono (Post.bind (Rep X.K) P) fun u H1 m => ?_⟩
  obtain ⟨M1, ι1, x, s1, t1, C1, r1, P1⟩ := m.ex
  split at P1
  · obtain ⟨a, vs, rfl, h1, h2⟩ := r1.lst
    exact ⟨a, rfl, ⟨vs, SqL.of (C1.sub _ _ h1)⟩, Post.now (C := CI X.K) P1 C1 (itOk_list h1 h2)⟩
  · exact P1.elim
theorem ji_tup {tg : Expr} (h : JE X cl W e fa) : JI X cl W tg e (tupF' fa) := (pi_tup h).imp fun σ H R h => by
  obtain ⟨M, ι, δ, s, C, S, P⟩ := h
  refine ⟨M, ι, δ, s, C, S, Post.mono (Post.bind (Rep X.K) P) fun u H1 m => ?_⟩
  obtain ⟨M1, ι1, x, s1, t1, C1, r1, P1⟩ := m.ex
  split at P1
  · obtain ⟨a, vs, rfl, h1, h2⟩ := r1.tup
    exact ⟨a, rfl, ⟨vs, Ex.t C1.sub h1.sq⟩, Post.now (C := CI X.K) P1 C1 (itOk_tup h1 h2)⟩
  · exact P1.elim
theorem ji_str {tg : Expr} (h : JE X cl W e fa) : JI X cl W tg e (strF' fa) := (pi_str h).imp fun σ H R h => by
  obtain ⟨M, ι, δ, s, C, S, P⟩ := h
  refine ⟨M, ι, δ, s, C, S, Post.mono (Post.bind (Rep X.K) P) fun u H1 m => ?_⟩
  obtain ⟨M1, ι1, x, s1, t1, C1, r1, P1⟩ := m.ex
  split at P1
  · obtain ⟨rfl, o⟩ := r1.str
    exact ⟨_, rfl, Post.now (C := CI X.K) P1 C1 (itOk_str o)⟩
  · exact P1.elim
def upI (lo : Int) (n : Nat) : List D := (List.range n).map fun (i : Nat) => .int (lo + (i : Int))
def sm (i : Int) : Bool := decide (-(2 ^ 60) ≤ i) && decide (i < 2 ^ 60)
def rng1F (f : AF) : AF := fun δ s => (f δ s).bind fun ds s1 => match ds with
  | [.int j] => if sm j = true then .val (upI 0 j.toNat) s1 else .stuck
  | _ => .stuck
def rng2F (f : AF) : AF := fun δ s => (f δ s).bind fun ds s1 => match ds with
  | [.int i, .int j] => if sm i = true ∧ sm j = true then .val (upI i (j - i).toNat) s1 else .stuck
  | _ => .stuck
theorem itOk_rng {K : PySem.W.Frag} {M : Hp} {lo : Int} {n : Nat} : ItOk K M (Itr lo n) (upI lo n) := by
  intro i M1 ι1 s1 H1 e C
  constructor
  · intro d hd
    unfold upI at hd
    rw [List.getElem?_map] at hd
    obtain ⟨j, h1, rfl⟩ := Option.map_eq_some_iff.mp hd
    have hi : i < n := by have := (List.getElem?_eq_some_iff.mp h1).1; simpa using this
    have hj : j = i := by rw [List.getElem?_range hi] at h1; exact (Option.some.inj h1).symm
    subst hj
    refine ⟨hi, fun v' H2 y => ?_⟩
    obtain ⟨rfl, rfl⟩ := y
    exact ⟨M1, Step.refl, C, rf_int⟩
  · intro hi
    show n ≤ i
    simpa [upI] using hi
theorem sm_lt {j : Int} (h : sm j = true) : -(2 ^ 62) ≤ j ∧ j < 2 ^ 62 := by
  unfold sm at h
  simp only [Bool.and_eq_true, decide_eq_true_eq] at h
  omega
theorem ji_range1 {tg : Expr} {p : Pos} (hg : Gl X "range") (hm : X.mg "range" = none) (ha : JA X cl W [a] fr) (hs : starEach [a] X.env = [(false, eval a X.env)] := by rfl) : JI X cl W tg (.Call (.Name "range" p) [a] [] pos) (rng1F fr) := (pi_range1 hg hm ha hs).imp fun σ H R h => by
  obtain ⟨M, ι, δ, s, C, S, P⟩ := h
  refine ⟨M, ι, δ, s, C, S, Post.mono (Post.bind (Reps X.K) P) fun u H1 m => ?_⟩
  obtain ⟨M1, ι1, x, s1, t1, C1, r1, P1⟩ := m.ex
  split at P1
  · split at P1
    · rename_i j hj
      obtain ⟨u, rfl, r2⟩ := r1.one
      cases r2.int
      exact ⟨j, rfl, (sm_lt hj).1, (sm_lt hj).2, Post.now (C := CI X.K) P1 C1 itOk_rng⟩
    · exact P1.elim
  · exact P1.elim
theorem ji_range2 {tg : Expr} {p : Pos} (hg : Gl X "range") (hm : X.mg "range" = none) (ha : JA X cl W [a, b] fr) (hs : starEach [a, b] X.env = [(false, eval a X.env), (false, eval b X.env)] := by rfl) (hs2 : starEach [b] X.env = [(false, eval b X.env)] := by rfl) :
    JI X cl W tg (.Call (.Name "range" p) [a, b] [] pos) (rng2F fr) := (pi_range2 hg hm ha hs hs2).imp fun σ H R h => by
  obtain ⟨M, ι, δ, s, C, S, P⟩ := h
  refine ⟨M, ι, δ, s, C, S, Post.mono (Post.bind (Reps X.K) P) fun u H1 m => ?_⟩
  obtain ⟨M1, ι1, x, s1, t1, C1, r1, P1⟩ := m.ex
  split at P1
  · split at P1
    · rename_i i j hj
      obtain ⟨u, w, rfl, r2, r3⟩ := r1.two
      cases r2.int
      cases r3.int
      exact ⟨i, j, rfl, ⟨(sm_lt hj.1).1, (sm_lt hj.1).2, (sm_lt hj.2).1, (sm_lt hj.2).2⟩, Post.now (C := CI X.K) P1 C1 itOk_rng⟩
    · exact P1.elim
  · exact P1.elim
/-! ### list comprehensions -/
def wipeD (δ : Sl) : List Nat → Sl
  | [] => δ
  | v :: vs => (wipeD δ vs).set v none
theorem wipe_get (σ : L2.St) (j : Nat) : ∀ vs : List Nat, (wipe σ vs)[j]? = if j ∈ vs then σ[j]?.map fun _ => none else σ[j]?
  | [] => by simp [wipe]
  | v :: vs => by
    unfold wipe
    by_cases h : v = j
    · subst h
      have ih := wipe_get σ v vs
      rw [if_pos (by simp)]
      by_cases hl : v < σ.length
      · rw [List.getElem?_set_self (by rw [wipe_length]; exact hl), List.getElem?_eq_getElem hl]; rfl
      · rw [List.getElem?_eq_none (by rw [List.length_set, wipe_length]; omega), List.getElem?_eq_none (by omega)]; rfl
    · rw [List.getElem?_set_ne h, wipe_get σ j vs]
      simp [Ne.symm h]
theorem wipe_set {σ : L2.St} {i : Nat} {x : Option V} {vs : List Nat} (h : i ∈ vs) : wipe (σ.set i x) vs = wipe σ vs := by
  apply List.ext_getElem?
  intro j
  rw [wipe_get, wipe_get]
  by_cases hj : j ∈ vs
  · rw [if_pos hj, if_pos hj]
    by_cases e : i = j
    · subst e
      rw [List.getElem?_set]
      simp
      split <;> simp [*]
    · rw [List.getElem?_set_ne e]
  · rw [if_neg hj, if_neg hj, List.getElem?_set_ne (fun e => hj (by rw [← e]; exact h))]
theorem wipe_wipe {σ : L2.St} {vs : List Nat} : wipe (wipe σ vs) vs = wipe σ vs := by
  apply List.ext_getElem?
  intro j
  rw [wipe_get, wipe_get]
  by_cases hj : j ∈ vs
  · rw [if_pos hj, if_pos hj]; simp [Function.comp_def]
  · rw [if_neg hj, if_neg hj]
theorem RepS.wipe {K : PySem.W.Frag} {M : Hp} {ι : List Addr} {δ : Sl} {σ : L2.St} (h : RepS K M ι δ σ) : ∀ vs : List Nat, RepS K M ι (wipeD δ vs) (L2.wipe σ vs)
  | [] => h
  | v :: vs => by
    obtain ⟨h1, h2⟩ := RepS.wipe h vs
    refine ⟨by unfold wipeD L2.wipe; simp [h1], fun i d e => ?_⟩
    unfold wipeD at e
    unfold L2.wipe
    by_cases hi : v = i
    · subst hi
      rw [List.getElem?_set] at e
      simp at e
    · rw [List.getElem?_set_ne hi] at e ⊢
      exact h2 i d e
/-- targets of a comprehension: its own names -/
def rdGC (K : PySem.W.Frag) (vs : List Nat) (g : GF) : TG := fun v σ H Q => ∃ M ι δ s d, Conc K M ι s H ∧ RepS K M ι δ σ ∧ Rep K M ι d v ∧ Post K (RepS K) (fun _ _ => False) M ι H (g d δ s) fun σ' H' => L2.wipe σ' vs = L2.wipe σ vs → Q σ' H'
abbrev JC (X : Cx) (vs : List Nat) (e : Expr) (g : GF) : Prop := PG X e (rdGC X.K vs g)
theorem jc_name {vs : List Nat} {i : Nat} {x : Str} {p : Pos} (hN : X.N.Nodup) (hv : i ∈ vs := by decide) (hi : X.N[i]? = some x := by rfl) (hx : Loc X.env.scope x := by first | exact Or.inl rfl | exact Or.inr rfl) (hf : X.fn x = true ∨ X.env.scope.names.lookup x = some .local := by first | exact .inl rfl | exact .inr rfl | assumption) :
    JC X vs (.Name x p) (nameG i) := (pg_name hN hi hx hf).imp fun v σ H Q h => by
  obtain ⟨M, ι, δ, s, d, C, S, r, P⟩ := h
  exact Post.now (C := RepS X.K) P C (S.set r i) (wipe_set hv)
def rdGCs (K : PySem.W.Frag) (vs : List Nat) (gs : List GF) : TGs := fun us σ H Q => ∃ M ι δ s ds, Conc K M ι s H ∧ RepS K M ι δ σ ∧ Reps K M ι ds us ∧ Post K (RepS K) (fun _ _ => False) M ι H (unp gs ds δ s) fun σ' H' => L2.wipe σ' vs = L2.wipe σ vs → Q σ' H'
abbrev JCs (X : Cx) (vs : List Nat) (es : List Expr) (gs : List GF) : Prop := PGs X es (rdGCs X.K vs gs)
theorem jcs_nil {vs : List Nat} : JCs X vs [] [] := pgs_nil.imp fun us σ H Q h => by
  obtain ⟨M, ι, δ, s, ds, C, S, r, P⟩ := h
  cases r with
  | nil => exact ⟨rfl, Post.now (C := RepS X.K) P C S rfl⟩
  | cons _ _ => exact P.elim
theorem jcs_cons {vs : List Nat} {g : GF} {gs : List GF} (h1 : JC X vs e g) (h2 : JCs X vs es gs) (hs : (assignEach (e :: es) X.env).map (·.2) = assign e X.env :: (assignEach es X.env).map (·.2) := by rfl) : JCs X vs (e :: es) (g :: gs) := (pgs_cons h1 h2 hs).imp fun us σ H Q h => by
  obtain ⟨M, ι, δ, s, ds, C, S, r, P⟩ := h
  cases r with
  | nil => exact P.elim
  | cons r1 r2 =>
    refine ⟨_, _, rfl, M, ι, δ, s, _, C, S, r1, Post.noX (Post.mono (Post.bind (RepS X.K) P) fun σ' H' m w => ?_)⟩
    obtain ⟨M1, ι1, δ1, s1, t1, C1, S1, P1⟩ := m.ex
    exact ⟨M1, ι1, δ1, s1, _, C1, S1, r2.step t1, Post.mono P1 fun σ2 H2 q w2 => q (w2.trans w)⟩
theorem jc_tup {vs : List Nat} {gs : List GF} {k : Nat} (hc : X.calm = true) (h : JCs X vs es gs) (hn : (assignEach es X.env).length = gs.length := by rfl) (hst : (assignEach es X.env).findIdx? (·.1) = none := by rfl) : JC X vs (.Tuple es k pos) (tupG gs) := (pg_tup hc h hn hst).imp fun v σ H Q h => by
  obtain ⟨M, ι, δ, s, d, C, S, r, P⟩ := h
  unfold tupG at P
  split at P
  · split at P
    · rename_i ds hl
      obtain ⟨p, us, rfl, h1, r1⟩ := r.tup
      exact ⟨p, us, rfl, Ex.t C.sub h1.sq, by rw [r1.length]; exact hl, M, ι, δ, s, ds, C, S, Reps.of r1, P⟩
    · exact P.elim
  · exact P.elim
/-- nothing raised within -/
def quiet {α : Type} (o : O α) : O α := match o with
  | .exc _ _ => .stuck
  | o => o
theorem Post.quiet {α β : Type} {K : PySem.W.Frag} {C : Car α β} {Wx Wx' : Nat → Hp → Prop} {M : Hp} {ι : List Addr} {H : Hp} {o : O α} {Q : β → Hp → Prop} (h : Post K C Wx M ι H (quiet o) Q) : Post K C Wx' M ι H o Q := by
  cases o with
  | stuck => exact h
  | val a s => exact h
  | exc c s => exact h.elim
def loopC (g : GF) (t : BF) (e : EF) (δ : Sl) : List D → List D → Sto → O (List D)
  | [], acc, s => .val acc s
  | x :: xs, acc, s => (noX (g x δ s)).bind fun δ1 s1 => (quiet (t δ1 s1)).bind fun b s2 =>
    if b = true then (quiet (e δ1 s2)).bind fun d s3 => if flat d = true ∧ acc.length < 16000000 then loopC g t e δ xs (acc ++ [d]) s3 else .stuck
    else loopC g t e δ xs acc s2
def compF (fi : AF) (vs : List Nat) (g : GF) (t : BF) (e : EF) : EF := fun δ s => (fi δ s).bind fun xs s1 => (loopC g t e (wipeD δ vs) xs [] s1).bind fun ds s2 => .val (.lst ds) s2
/-- a list of one's own -/
def compO (fi : AF) (vs : List Nat) (g : GF) (t : BF) (e : EF) : EF := fun δ s => (fi δ s).bind fun xs s1 => (loopC g t e (wipeD δ vs) xs [] s1).bind fun ds s2 => .val (.ob s2.length) (s2 ++ [.lst ds])
theorem Step.own {M M' : Hp} {ι ι' : List Addr} {H H' : Hp} {p : Addr} {o : HO} (t : Step M ι H M' ι' H') (h : H p = none) : Step M ι H M' ι' (upd H' p o) :=
  ⟨t.mm, t.ii, fun a u e n => by rw [upd_ne (ne_of_none e h)]; exact t.fr a u e n, t.im, t.mn⟩
/-- p is on the way: nobody's, and holds acc -/
structure Way (K : PySem.W.Frag) (M1 : Hp) (ι1 : List Addr) (H1 : Hp) (p : Addr) (acc : List D) (M : Hp) (ι : List Addr) (s : Sto) (H : Hp) : Prop where
  st : Step M1 ι1 H1 M ι H
  C : Conc K M ι s H
  np : H1 p = none
  nM : M p = none
  ni : p ∉ ι
  at_ : ∃ vs, H p = some (.lst vs) ∧ RepL K M acc vs
theorem Way.start {K : PySem.W.Frag} {M1 : Hp} {ι1 : List Addr} {s : Sto} {H1 : Hp} {p : Addr} (C : Conc K M1 ι1 s H1) (h : H1 p = none) : Way K M1 ι1 H1 p [] M1 ι1 s (upd H1 p (.lst [])) := by
  obtain ⟨hM, hi⟩ := C.fresh h
  obtain ⟨C1, t1⟩ := C.over (o := .lst []) h
  exact ⟨t1, C1, h, hM, hi, [], upd_same, .nil⟩
theorem Way.go {K : PySem.W.Frag} {M1 : Hp} {ι1 : List Addr} {H1 : Hp} {p : Addr} {acc : List D} {M M' : Hp} {ι ι' : List Addr} {s s' : Sto} {H H' : Hp} (w : Way K M1 ι1 H1 p acc M ι s H) (t : Step M ι H M' ι' H') (C : Conc K M' ι' s' H') : Way K M1 ι1 H1 p acc M' ι' s' H' := by
  obtain ⟨vs, h1, h2⟩ := w.at_
  have there : H p ≠ none := by rw [h1]; simp
  refine ⟨w.st.trans t, C, w.np, ?_, fun z => ?_, vs, t.fr p _ h1 w.ni, h2.step t⟩
  · cases e : M' p with
    | none => rfl
    | some o =>
      rcases t.mn p (by rw [e]; simp) with z | z | z
      · exact absurd w.nM z
      · exact absurd z w.ni
      · exact absurd z there
  · rcases t.im p z with q | q
    · exact w.ni q
    · exact there q
theorem Way.put {K : PySem.W.Frag} {M1 : Hp} {ι1 : List Addr} {H1 : Hp} {p : Addr} {acc : List D} {M : Hp} {ι : List Addr} {s : Sto} {H : Hp} {d : D} {v : V} {vs : List V} (w : Way K M1 ι1 H1 p acc M ι s H) (hp : H p = some (.lst vs)) (hr : RepL K M acc vs) (r : RepF K M d v) : Way K M1 ι1 H1 p (acc ++ [d]) M ι s (upd H p (.lst (vs ++ [v]))) :=
  ⟨w.st.own w.np, w.C.own w.nM w.ni, w.np, w.nM, w.ni, _, upd_same, hr.append (.cons r .nil)⟩
theorem Way.froz {K : PySem.W.Frag} {M1 : Hp} {ι1 : List Addr} {H1 : Hp} {p : Addr} {acc : List D} {M : Hp} {ι : List Addr} {s : Sto} {H : Hp} {Wx : Nat → Hp → Prop} {Q : VK} (w : Way K M1 ι1 H1 p acc M ι s H) (P : Post K (Rep K) Wx M1 ι1 H1 (.val (.lst acc) s) Q) : Q (.ref p) H := by
  obtain ⟨vs, h1, h2⟩ := w.at_
  have C' := w.C.freeze w.nM w.ni h1
  refine P (upd M p (.lst vs)) ι H _ ⟨Ex.trans w.st.mm (Ex.new w.nM), w.st.ii, w.st.fr, w.st.im, fun a e => ?_⟩ C' (Rep.of (by unfold RepF; exact ⟨p, vs, rfl, upd_same, h2.mono (Ex.new w.nM)⟩))
  by_cases q : a = p
  · subst q; exact .inr (.inr w.np)
  · rw [upd_ne q] at e; exact w.st.mn a e
theorem Way.owned {K : PySem.W.Frag} {M1 : Hp} {ι1 : List Addr} {H1 : Hp} {p : Addr} {acc : List D} {M : Hp} {ι : List Addr} {s : Sto} {H : Hp} {Wx : Nat → Hp → Prop} {Q : VK} (w : Way K M1 ι1 H1 p acc M ι s H) (P : Post K (Rep K) Wx M1 ι1 H1 (.val (.ob s.length) (s ++ [.lst acc])) Q) : Q (.ref p) H := by
  obtain ⟨vs, h1, h2⟩ := w.at_
  have C' : Conc K M (ι ++ [p]) (s ++ [.lst acc]) H := w.C.join w.ni ⟨w.nM, vs, h1, h2⟩
  refine P M (ι ++ [p]) H _ ⟨w.st.mm, fun k a h => ii_app k a (w.st.ii k a h), w.st.fr, fun a h => ?_, w.st.mn⟩ C' ⟨p, rfl, by rw [← w.C.len]; simp⟩
  rcases List.mem_append.mp h with h | h
  · exact w.st.im a h
  · obtain rfl : a = p := by simpa using h
    exact .inr w.np
theorem rd_lcx {K : PySem.W.Frag} {fi : AF} {vs : List Nat} {g : GF} {t : BF} {f : EF} {fin : List D → Sto → O D}
    (hfin : ∀ {M1 : Hp} {ι1 : List Addr} {H1 : Hp} {p : Addr} {acc : List D} {M : Hp} {ι : List Addr} {s : Sto} {H : Hp} {Wx : Nat → Hp → Prop} {Q : VK}, Way K M1 ι1 H1 p acc M ι s H → Post K (Rep K) Wx M1 ι1 H1 (fin acc s) Q → Q (.ref p) H)
    (σ : L2.St) (H : Hp) (Q : VK) (h : rdE K cl W (fun δ s => (fi δ s).bind fun xs s1 => (loopC g t f (wipeD δ vs) xs [] s1).bind fin) σ H Q) : tLc (rdI K cl W fi) (rdGC K vs g) (rdT K cl W0 t) (rdE K cl W0 f) vs σ H Q := by
  obtain ⟨M, ι, δ, s, C, S, P⟩ := h
  refine ⟨M, ι, δ, s, C, S, Post.mono (Post.bind (CI K) P) fun J H1 m p hp => ?_⟩
  obtain ⟨M1, ι1, xs, s1, t1, C1, ok, P1⟩ := m.ex
  have S1 := S.step t1
  refine ⟨fun i m H => m = xs.length - i ∧ i ≤ xs.length ∧ ∃ M' ι' s' acc, Way K M1 ι1 H1 p acc M' ι' s' H ∧ Post K (Rep K) (wx cl W σ) M1 ι1 H1 ((loopC g t f (wipeD δ vs) (xs.drop i) acc s').bind fin) Q, ⟨xs.length, by simp, Nat.zero_le _, M1, ι1, s1, [], Way.start C1 hp, P1⟩, ?_⟩
  rintro i m H ⟨rfl, hi, M', ι', s', acc, w, P'⟩
  obtain ⟨ok1, ok2⟩ := ok i M' ι' s' H w.st.mm w.C
  by_cases hlt : i < xs.length
  · obtain ⟨go, yl⟩ := ok1 _ (List.getElem?_eq_getElem hlt)
    rw [List.drop_eq_getElem_cons hlt] at P'
    refine .inr ⟨go, fun H => ∃ M2 ι2 s2 acc2, Way K M1 ι1 H1 p acc2 M2 ι2 s2 H ∧ Post K (Rep K) (wx cl W σ) M1 ι1 H1 ((loopC g t f (wipeD δ vs) (xs.drop (i + 1)) acc2 s2).bind fin) Q, fun H' z => ⟨xs.length - (i + 1), by omega, rfl, hlt, z⟩, fun v H2 hy => ?_⟩
    obtain ⟨M2, t2, C2, r2⟩ := yl v H2 hy
    have w2 := w.go t2 C2
    refine ⟨M2, ι', wipeD δ vs, s', xs[i], C2, (S1.step w2.st).wipe vs, r2, ?_⟩
    unfold loopC at P'
    revert P'
    cases g xs[i] (wipeD δ vs) s' with
    | stuck => exact fun P' => P'
    | exc c s'' => exact fun P' => P'.elim
    | val δ3 s3 =>
      intro P' M3 ι3 H3 σ3 t3 C3 S3 hw
      have w3 := w2.go t3 C3
      refine ⟨hw.trans wipe_wipe, M3, ι3, δ3, s3, C3, S3, ?_⟩
      have P3 : Post K (Rep K) (wx cl W σ) M1 ι1 H1 (((quiet (t δ3 s3)).bind fun b s2 => if b = true then (quiet (f δ3 s2)).bind fun d s3 => if flat d = true ∧ acc.length < 16000000 then loopC g t f (wipeD δ vs) (xs.drop (i + 1)) (acc ++ [d]) s3 else .stuck else loopC g t f (wipeD δ vs) (xs.drop (i + 1)) acc s2).bind fin) Q := P'
      revert P3
      cases t δ3 s3 with
      | stuck => exact fun P3 => P3
      | exc c s'' => exact fun P3 => P3.elim
      | val b s4 =>
        intro P3 M4 ι4 H4 b' t4 C4 hb
        subst hb
        have w4 := w3.go t4 C4
        cases b' with
        | false => exact iteF ⟨M4, ι4, s4, acc, w4, P3⟩
        | true =>
          refine iteT ⟨M4, ι4, δ3, s4, C4, S3.step t4, ?_⟩
          have P4 : Post K (Rep K) (wx cl W σ) M1 ι1 H1 (((quiet (f δ3 s4)).bind fun d s3 => if flat d = true ∧ acc.length < 16000000 then loopC g t f (wipeD δ vs) (xs.drop (i + 1)) (acc ++ [d]) s3 else .stuck).bind fin) Q := P3
          revert P4
          cases f δ3 s4 with
          | stuck => exact fun P4 => P4
          | exc c s'' => exact fun P4 => P4.elim
          | val d s5 =>
            intro P4 M5 ι5 H5 y t5 C5 r5
            have w5 := w4.go t5 C5
            have P5 : Post K (Rep K) (wx cl W σ) M1 ι1 H1 ((if flat d = true ∧ acc.length < 16000000 then loopC g t f (wipeD δ vs) (xs.drop (i + 1)) (acc ++ [d]) s5 else .stuck).bind fin) Q := P4
            by_cases hc : flat d = true ∧ acc.length < 16000000
            · rw [if_pos hc] at P5
              obtain ⟨us, h1, h2⟩ := w5.at_
              exact ⟨us, h1, by rw [h2.length]; exact Nat.lt_of_lt_of_le hc.2 (by decide), M5, ι5, s5, acc ++ [d], w5.put h1 h2 (r5.f hc.1), P5⟩
            · rw [if_neg hc] at P5
              exact P5.elim
  · have e : i = xs.length := by omega
    rw [e, List.drop_length] at P'
    exact .inl ⟨ok2 (by omega), hfin w P'⟩
theorem rd_lc {K : PySem.W.Frag} {fi : AF} {vs : List Nat} {g : GF} {t : BF} {f : EF} (σ : L2.St) (H : Hp) (Q : VK) (h : rdE K cl W (compF fi vs g t f) σ H Q) : tLc (rdI K cl W fi) (rdGC K vs g) (rdT K cl W0 t) (rdE K cl W0 f) vs σ H Q := rd_lcx (fin := fun ds s2 => .val (.lst ds) s2) Way.froz σ H Q h
theorem rd_lcO {K : PySem.W.Frag} {fi : AF} {vs : List Nat} {g : GF} {t : BF} {f : EF} (σ : L2.St) (H : Hp) (Q : VK) (h : rdE K cl W (compO fi vs g t f) σ H Q) : tLc (rdI K cl W fi) (rdGC K vs g) (rdT K cl W0 t) (rdE K cl W0 f) vs σ H Q := rd_lcx (fin := fun ds s2 => .val (.ob s2.length) (s2 ++ [SO.lst ds])) Way.owned σ H Q h
def yes : BF := fun _ s => .val true s
abbrev JTs (X : Cx) (cl : Nat → Value) (W : WX) (es : List Expr) (f : BF) : Prop := PTs X es (rdT X.K cl W f)
theorem jts_nil : JTs X cl W [] yes := ⟨fun pins s σ H Q I h => by
  obtain ⟨M, ι, δ, s', C, S, P⟩ := h
  exact pts_nil.run pins s σ H Q I (Post.now (C := CB) P C rfl)⟩
theorem jts_one {t : BF} (h : JT X cl W e t) : JTs X cl W [e] t := pts_one h
theorem je_lc {elt tg iter : Expr} {ifs : List Expr} {scope : Scope} {own : List (Str × Nat)} {vs : List Nat} {fi : AF} {g : GF} {t : BF} {f : EF} (hc : X.calm = true) (hN : X.N.Nodup) (hi : JI X cl W tg iter fi) (ok : BlkOk X.N X.env.scope scope own)
    (hg : ∀ (s : Shared) (H : Hp) (C : Addr) (cls : List (Str × Addr)) (fp : List Addr), JC (X.blk s H scope (compEnvC scope cls C X.env) fp) vs tg g) (ht : ∀ (s : Shared) (H : Hp) (C : Addr) (cls : List (Str × Addr)) (fp : List Addr), JTs (X.blk s H scope (compEnvC scope cls C X.env) fp) cl W0 ifs t)
    (he : ∀ (s : Shared) (H : Hp) (C : Addr) (cls : List (Str × Addr)) (fp : List Addr), JE (X.blk s H scope (compEnvC scope cls C X.env) fp) cl W0 elt f) (hvs : own.map (·.2) = vs := by rfl) (hs : ∀ x, foldedSetIterable iter X.env x = pure x := by intro _; rfl) :
    JE X cl W (.ListComp elt [⟨tg, iter, ifs, 0⟩] scope pos) (compF fi vs g t f) := by
  subst hvs
  exact (pe_lc hc hN hi ok hg ht he hs).imp rd_lc
theorem je_lcO {elt tg iter : Expr} {ifs : List Expr} {scope : Scope} {own : List (Str × Nat)} {vs : List Nat} {fi : AF} {g : GF} {t : BF} {f : EF} (hc : X.calm = true) (hN : X.N.Nodup) (hi : JI X cl W tg iter fi) (ok : BlkOk X.N X.env.scope scope own)
    (hg : ∀ (s : Shared) (H : Hp) (C : Addr) (cls : List (Str × Addr)) (fp : List Addr), JC (X.blk s H scope (compEnvC scope cls C X.env) fp) vs tg g) (ht : ∀ (s : Shared) (H : Hp) (C : Addr) (cls : List (Str × Addr)) (fp : List Addr), JTs (X.blk s H scope (compEnvC scope cls C X.env) fp) cl W0 ifs t)
    (he : ∀ (s : Shared) (H : Hp) (C : Addr) (cls : List (Str × Addr)) (fp : List Addr), JE (X.blk s H scope (compEnvC scope cls C X.env) fp) cl W0 elt f) (hvs : own.map (·.2) = vs := by rfl) (hs : ∀ x, foldedSetIterable iter X.env x = pure x := by intro _; rfl) :
    JE X cl W (.ListComp elt [⟨tg, iter, ifs, 0⟩] scope pos) (compO fi vs g t f) := by
  subst hvs
  exact (pe_lc hc hN hi ok hg ht he hs).imp rd_lcO
theorem js_setLc {i : Nat} {y : Str} {py spos : Pos} {elt tg iter : Expr} {ifs : List Expr} {scope : Scope} {own : List (Str × Nat)} {vs : List Nat} {fi : AF} {g : GF} {t : BF} {f : EF} (hc : X.calm = true) (hN : X.N.Nodup) (hsw : swapsWith (.ListComp elt [⟨tg, iter, ifs, 0⟩] scope pos) (some (.Name y py)) spos.line X.env = pure true) (hi : JI X cl W tg iter fi) (ok : BlkOk X.N X.env.scope scope own)
    (hg : ∀ (s : Shared) (H : Hp) (C : Addr) (cls : List (Str × Addr)) (fp : List Addr), JC (X.blk s H scope (compEnvC scope cls C X.env) fp) vs tg g) (ht : ∀ (s : Shared) (H : Hp) (C : Addr) (cls : List (Str × Addr)) (fp : List Addr), JTs (X.blk s H scope (compEnvC scope cls C X.env) fp) cl W0 ifs t)
    (he : ∀ (s : Shared) (H : Hp) (C : Addr) (cls : List (Str × Addr)) (fp : List Addr), JE (X.blk s H scope (compEnvC scope cls C X.env) fp) cl W0 elt f) (hy : X.N[i]? = some y := by rfl) (hyl : X.env.scope.names.lookup y = some .local := by rfl) (hvs : own.map (·.2) = vs := by rfl) (hs : ∀ x, foldedSetIterable iter X.env x = pure x := by intro _; rfl) :
    JS X cl W (.Assign [.Name y py] (.ListComp elt [⟨tg, iter, ifs, 0⟩] scope pos) spos) (setS i (compF fi vs g t f)) := by
  subst hvs
  exact (ps_setLc hc hN hy hyl hsw hi ok hg ht he hs).imp fun D σ H h => rd_set rd_lc D σ H h
theorem js_setLcO {i : Nat} {y : Str} {py spos : Pos} {elt tg iter : Expr} {ifs : List Expr} {scope : Scope} {own : List (Str × Nat)} {vs : List Nat} {fi : AF} {g : GF} {t : BF} {f : EF} (hc : X.calm = true) (hN : X.N.Nodup) (hsw : swapsWith (.ListComp elt [⟨tg, iter, ifs, 0⟩] scope pos) (some (.Name y py)) spos.line X.env = pure true) (hi : JI X cl W tg iter fi) (ok : BlkOk X.N X.env.scope scope own)
    (hg : ∀ (s : Shared) (H : Hp) (C : Addr) (cls : List (Str × Addr)) (fp : List Addr), JC (X.blk s H scope (compEnvC scope cls C X.env) fp) vs tg g) (ht : ∀ (s : Shared) (H : Hp) (C : Addr) (cls : List (Str × Addr)) (fp : List Addr), JTs (X.blk s H scope (compEnvC scope cls C X.env) fp) cl W0 ifs t)
    (he : ∀ (s : Shared) (H : Hp) (C : Addr) (cls : List (Str × Addr)) (fp : List Addr), JE (X.blk s H scope (compEnvC scope cls C X.env) fp) cl W0 elt f) (hy : X.N[i]? = some y := by rfl) (hyl : X.env.scope.names.lookup y = some .local := by rfl) (hvs : own.map (·.2) = vs := by rfl) (hs : ∀ x, foldedSetIterable iter X.env x = pure x := by intro _; rfl) :
    JS X cl W (.Assign [.Name y py] (.ListComp elt [⟨tg, iter, ifs, 0⟩] scope pos) spos) (setS i (compO fi vs g t f)) := by
  subst hvs
  exact (ps_setLc hc hN hy hyl hsw hi ok hg ht he hs).imp fun D σ H h => rd_set rd_lcO D σ H h
end
/-! ### defs -/
def startD (N : List Str) (ds : List D) : Sl := ds.map some ++ List.replicate (N.length - ds.length) none
/-- a body, as a function: what it made itself is forgotten -/
def outF (n : Nat) : OS → O D
  | .rt d s => if flat d = true then .val d (s.take n) else .stuck
  | .nx _ s => .val .non (s.take n)
  | .exc c _ s => .exc c (s.take n)
  | _ => .stuck
def fnF (N : List Str) (n : Nat) (body : SF) : FF := fun ds s => if ds.length = n then outF s.length (body (startD N ds) s) else .stuck
def SpF (K : PySem.W.Frag) (cl : Nat → Value) (n : Nat) (F : FF) : Sp := fun vs H Q E => ∃ M ι s ds, Conc K M ι s H ∧ Reps K M ι ds vs ∧ ds.length = n ∧ Post K (Rep K) (fun c H' => E (cl c) none H') M ι H (F ds s) Q
/-- a def at its place -/
structure JAt (P : Program) (w : World) (K : PySem.W.Frag) (mg : Str → Option Value) (base : Heap) (cl : Nat → Value) (k : Nat) (f : Addr) (n : Nat) (F : FF) : Prop where
  ex : ∃ (fd : FuncData) (ps : List Str), PySem.W.keepIn K (.ref f) = true ∧ Binds K fd ps [] ∧ FnOk P w K mg base (L2.CX P w) k f fd ps (SpF K cl n F)
/-- .. by its name -/
structure JFn (P : Program) (w : World) (K : PySem.W.Frag) (mg : Str → Option Value) (base : Heap) (cl : Nat → Value) (k : Nat) (x : Str) (n : Nat) (F : FF) : Prop where
  ex : ∃ f : Addr, mg x = some (.ref f) ∧ JAt P w K mg base cl k f n F
abbrev FnP (K : PySem.W.Frag) (x qual : Str) (st : Stmt) (f : Addr) (fd : FuncData) : Prop := FunD K x qual (defArgs st) (defBody st) (defScope st) [] [] f fd
theorem RepS.begun {K : PySem.W.Frag} {M : Hp} {ι : List Addr} {ds : List D} {vs : List V} (N : List Str) (r : Reps K M ι ds vs) : RepS K M ι (startD N ds) (L2.start N vs) := by
  constructor
  · unfold startD L2.start; simp [r.length]
  · intro i d h
    unfold startD at h
    unfold L2.start
    by_cases hi : i < ds.length
    · rw [List.getElem?_append_left (by simpa using hi)] at h
      rw [List.getElem?_append_left (by simpa [r.length] using hi)]
      rw [List.getElem?_map] at h ⊢
      obtain ⟨d', h1, h2⟩ := Option.map_eq_some_iff.mp h
      cases h2
      have : ∀ {ds : List D} {vs : List V} {i : Nat}, Reps K M ι ds vs → ds[i]? = some d → ∃ v, vs[i]? = some v ∧ Rep K M ι d v := by
        intro ds vs i r
        induction r generalizing i with
        | nil => intro h; simp at h
        | cons a _ ih =>
          intro h
          cases i with
          | zero => simp at h; subst h; exact ⟨_, rfl, a⟩
          | succ i => simp at h; simpa using ih h
      obtain ⟨v, h3, h4⟩ := this r h1
      exact ⟨v, by rw [h3]; rfl, h4⟩
    · rw [List.getElem?_append_right (by simpa using hi)] at h
      obtain ⟨h1, h2⟩ := List.getElem?_eq_some_iff.mp h
      simp at h2
theorem Step.take {M : Hp} {ι : List Addr} {H : Hp} {M' : Hp} {ι' : List Addr} {H' : Hp} (t : Step M ι H M' ι' H') (n : Nat) (hn : n = ι.length) : Step M ι H M' (ι'.take n) H' := by
  refine ⟨t.mm, fun k a h => ?_, t.fr, fun a h => t.im a (List.mem_of_mem_take h), t.mn⟩
  have hk : k < ι.length := (List.getElem?_eq_some_iff.mp h).1
  rw [List.getElem?_take_of_lt (by omega)]
  exact t.ii k a h
theorem Rep.flatAny {K : PySem.W.Frag} {M : Hp} {ι ι' : List Addr} {d : D} {v : V} (h : Rep K M ι d v) (f : flat d = true) : Rep K M ι' d v := Rep.of (h.f f)
section
variable {P : Program} {w : World} {K : PySem.W.Frag} {mg : Str → Option Value} {base : Heap} {cl : Nat → Value}
/-- a def of the text -/
theorem fn_fo {x qual : Str} {st : Stmt} {f : Addr} {fd : FuncData} {N ps : List Str} {k : Nat} {body : SF} (F : FnP K x qual st f fd) (S : FnScope N ps (defScope st))
    (hbody : ∀ (cdv : Value) (A : Around) (outer : List Env) (s : Shared) (H : Hp) (E : XK), Room k (A.deeper (envOfC qual (defScope st) s.heap.objs.size f cdv)) → Takes (cxOf (L2.CX P w) P w K mg base N qual (defScope st) f cdv A outer s H E) (fun cls d _ H => E cls d H) →
      PassesOwn (model P w) (A.deeper (envOfC qual (defScope st) s.heap.objs.size f cdv)) (envOfC qual (defScope st) s.heap.objs.size f cdv) (cxOf (L2.CX P w) P w K mg base N qual (defScope st) f cdv A outer s H E).xe →
      JSs (cxOf (L2.CX P w) P w K mg base N qual (defScope st) f cdv A outer s H E) cl (fun cls d _ H => E cls d H) (defBody st) body) :
    FnOk P w K mg base (L2.CX P w) (k + 1) f fd ps (SpF K cl ps.length (fnF N ps.length body)) := by
  refine F.ok S (fun vs H Q E h => ?_) fun cdv A outer s H vs Q E hr h => ?_
  · obtain ⟨M, ι, s, ds, _, r, e, _⟩ := h
    rw [r.length, e]
  · obtain ⟨M, ι, st', ds, C, r, e, Pq⟩ := h
    refine ⟨rdS K cl (fun cls d _ H => E cls d H) body, ?_, ?_⟩
    · exact hbody cdv A outer s H E hr (takes_of rfl rfl rfl rfl) (passes_of (X := cxOf (L2.CX P w) P w K mg base N qual (defScope st) f cdv A outer s H E) rfl)
    · refine ⟨M, ι, startD N ds, st', C, RepS.begun N r, ?_⟩
      unfold fnF at Pq
      rw [if_pos e] at Pq
      revert Pq
      cases body (startD N ds) st' with
      | stuck => exact fun Pq => Pq
      | bk δ s' => exact fun Pq => Pq.elim
      | ct δ s' => exact fun Pq => Pq.elim
      | nx δ s' =>
        intro Pq M' ι' H' σ' t C' S'
        have := C.len
        exact Pq M' (ι'.take st'.length) H' .non (t.take _ (by omega)) (C'.take _) rf_non
      | exc c δ s' =>
        intro Pq M' ι' H' σ' t C' S'
        have := C.len
        exact Pq M' (ι'.take st'.length) H' (t.take _ (by omega)) (C'.take _)
      | rt d s' =>
        intro Pq M' ι' H' v t C' r'
        have P2 : Post K (Rep K) (fun c H' => E (cl c) none H') M ι H (if flat d = true then O.val d (s'.take st'.length) else .stuck) Q := Pq
        by_cases hf : flat d = true
        · rw [if_pos hf] at P2
          have := C.len
          exact P2 M' (ι'.take st'.length) H' v (t.take _ (by omega)) (C'.take _) (r'.flatAny hf)
        · rw [if_neg hf] at P2
          exact P2.elim
theorem fn_ok {x qual : Str} {st : Stmt} {f : Addr} {fd : FuncData} {N ps : List Str} {k : Nat} {body : SF} (F : FnP K x qual st f fd) (b : Binds K fd ps []) (S : FnScope N ps (defScope st))
    (hbody : ∀ (cdv : Value) (A : Around) (outer : List Env) (s : Shared) (H : Hp) (E : XK), Room k (A.deeper (envOfC qual (defScope st) s.heap.objs.size f cdv)) → Takes (cxOf (L2.CX P w) P w K mg base N qual (defScope st) f cdv A outer s H E) (fun cls d _ H => E cls d H) →
      PassesOwn (model P w) (A.deeper (envOfC qual (defScope st) s.heap.objs.size f cdv)) (envOfC qual (defScope st) s.heap.objs.size f cdv) (cxOf (L2.CX P w) P w K mg base N qual (defScope st) f cdv A outer s H E).xe →
      JSs (cxOf (L2.CX P w) P w K mg base N qual (defScope st) f cdv A outer s H E) cl (fun cls d _ H => E cls d H) (defBody st) body) :
    JAt P w K mg base cl (k + 1) f ps.length (fnF N ps.length body) := ⟨fd, ps, F.kp, b, fn_fo F S hbody⟩
/-- a def of which nothing is said -/
theorem fn_none {x qual : Str} {st : Stmt} {f : Addr} {fd : FuncData} {N ps : List Str} {k : Nat} (F : FnP K x qual st f fd) (b : Binds K fd ps []) (S : FnScope N ps (defScope st)) : JAt P w K mg base cl k f ps.length (fun _ _ => .stuck) := by
  have no : ∀ vs H Q E, SpF K cl ps.length (fun _ _ => .stuck) vs H Q E → False := fun vs H Q E h => by
    obtain ⟨M, ι, s, ds, _, _, _, e⟩ := h
    exact e
  exact ⟨fd, ps, F.kp, b, fun vs H Q E h => (no _ _ _ _ h).elim, fun A outer s H args us vs Q E _ _ _ _ h => (no _ _ _ _ h).elim⟩
end
def callF (n : Nat) (F : FF) (fr : AF) : EF := fun δ s => (fr δ s).bind fun xs s1 => if xs.length = n then F xs s1 else .stuck
theorem je_call {X : Cx} {cl : Nat → Value} {W : WX} {x : Str} {p pos : Pos} {e : Expr} {es : List Expr} {fr : AF} {n k j : Nat} {F : FF} (J : JFn X.prog X.w X.K X.mg X.base cl k x n F) (hr : Room j X.A) (hk : k ≤ j) (tk : Takes X W) (hg : Gl X x) (ha : JA X cl W (e :: es) fr)
    (hdb : (x == ("__debug__" : Str)) = false := by decide) (he : starEach (e :: es) X.env = (false, eval e X.env) :: starEach es X.env := by rfl) (hpl : (backTo pos (starEach es X.env)).any (·.1) = false := by rfl) :
    JE X cl W (.Call (.Name x p) (e :: es) [] pos) (callF n F fr) := by
  obtain ⟨f, hm, J⟩ := J.ex
  obtain ⟨fd, ps, kp, b, G⟩ := J.ex
  refine (pe_callS G (hr.mono hk) hg hm kp b (fun σ => passAt tk σ) ha hdb he hpl).imp fun σ H Q h => ?_
  obtain ⟨M, ι, δ, s, C, S, Pq⟩ := h
  refine ⟨M, ι, δ, s, C, S, Post.mono (Post.bind (Reps X.K) Pq) fun us H1 m => ?_⟩
  obtain ⟨M1, ι1, xs, s1, t1, C1, r1, P1⟩ := m.ex
  split at P1
  · rename_i hn
    exact ⟨M1, ι1, s1, xs, C1, r1, hn, P1⟩
  · exact P1.elim
/-- the law's own promise -/
theorem law_sp {K : PySem.W.Frag} {cl : Nat → Value} {F : FF} (h : ∀ ns : List Int, ns.length ≤ 63 → ∃ s, F [.scr ns] [] = .val (.bl true) s) (H : Hp) (a : Addr) (ns : List Int) (hl : ns.length ≤ 63) (hS : SqL K H a (ns.map V.int)) :
    SpF K cl 1 F [.ref a] H (fun v _ => v = .bl true) fun _ _ _ => False := by
  obtain ⟨s, e⟩ := h ns hl
  refine ⟨H, [], [], [.scr ns], ⟨Ex.refl H, rfl, List.nodup_nil, fun k a o h => by simp at h⟩, .cons (Rep.of (by unfold RepF; exact ⟨a, rfl, hS⟩)) .nil, rfl, ?_⟩
  rw [e]
  intro M' ι' H' b _ _ r
  exact r.bl
theorem cx_none {P : Program} {w : World} {H : Hp} {s : Shared} {e : Value} {s' : Shared} (h : L2.CX P w [] H s (fun _ _ _ => False) e s') : False := by
  obtain ⟨_, _, _, _, _, _, _, _, _, _, _, _, z⟩ := h
  exact z.elim
end Fl
set_option Elab.async false
set_option linter.all false
set_option maxRecDepth 100000
namespace Fl
open PySem PySem.Spec PyProof.Rows L2
theorem bb_len : bootBuiltins "len" = some (.builtin "len") := by decide +kernel
theorem bb_int : bootBuiltins "int" = some (.type "int") := by decide +kernel
theorem bb_str : bootBuiltins "str" = some (.type "str") := by decide +kernel
theorem bb_bool : bootBuiltins "bool" = some (.type "bool") := by decide +kernel
theorem bb_list : bootBuiltins "list" = some (.type "list") := by decide +kernel
theorem bb_tuple : bootBuiltins "tuple" = some (.type "tuple") := by decide +kernel
theorem bb_set : bootBuiltins "set" = some (.type "set") := by decide +kernel
theorem bb_isinstance : bootBuiltins "isinstance" = some (.builtin "isinstance") := by decide +kernel
theorem bb_min : bootBuiltins "min" = some (.builtin "min") := by decide +kernel
theorem bb_max : bootBuiltins "max" = some (.builtin "max") := by decide +kernel
theorem bb_sum : bootBuiltins "sum" = some (.builtin "sum") := by decide +kernel
theorem bb_all : bootBuiltins "all" = some (.builtin "all") := by decide +kernel
theorem bb_sorted : bootBuiltins "sorted" = some (.builtin "sorted") := by decide +kernel
section
variable {X : Cx} {cl : Nat → Value} {W : WX} {st : Stmt} {sts : List Stmt} {e a b : Expr} {es : List Expr} {fa fb : EF} {fr : AF} {ff fg : SF} {pos : Pos}
theorem _root_.L2.PI.or {tg e : Expr} {t t' : TI} (h : PI X tg e t) (h' : PI X tg e t') : PI X tg e (fun σ H R => t σ H R ∨ t' σ H R) := ⟨fun pins s σ H Q I q => q.elim (h.run pins s σ H Q I) (h'.run pins s σ H Q I)⟩
/-- a list, a tuple, a text that stands for good -/
theorem ji_any {tg : Expr} (h : JE X cl W e fa) : JI X cl W tg e (walkF fa) := (((ji_list (tg := tg) h).or (ji_tup h)).or (ji_str h)).imp fun σ H R h => by
  obtain ⟨M, ι, δ, s, C, S, P⟩ := h
  unfold walkF at P
  cases q : fa δ s with
  | stuck => rw [q] at P; exact P.elim
  | exc c s' => rw [q] at P; exact .inl (.inl ⟨M, ι, δ, s, C, S, by unfold listF'; rw [q]; exact P⟩)
  | val d s' =>
    rw [q, O.bind_val] at P
    split at P
    · exact .inl (.inl ⟨M, ι, δ, s, C, S, by unfold listF'; rw [q]; exact P⟩)
    · exact .inl (.inr ⟨M, ι, δ, s, C, S, by unfold tupF'; rw [q]; exact P⟩)
    · exact .inr ⟨M, ι, δ, s, C, S, by unfold strF'; rw [q]; exact P⟩
    · exact P.elim
/-! ### * -/
def mulG : Op2 := fun s x y => match view s x, y with
  | .int i, .int j => if big i = true ∨ big j = true then .val (.int (i * j)) s else .stuck
  | .lst a, .int k => if sm k = true ∧ a.length * k.toNat ≤ 16000000 then .val (.lst (List.replicate k.toNat a).flatten) s else .stuck
  | _, _ => .stuck
def rMulU : R2 := fun x y H Q => (rI CMul fun i j => .int (i * j)) x y H Q ∨ rRep x y H Q
theorem op_mulU : OpR X (binaryOp .Mult) rMulU := op_mul.or op_rep
theorem RepL.rep {K : PySem.W.Frag} {M : Hp} {ds : List D} {vs : List V} (r : RepL K M ds vs) : ∀ k : Nat, RepL K M (List.replicate k ds).flatten (List.replicate k vs).flatten
  | 0 => .nil
  | k + 1 => by
    rw [List.replicate_succ, List.replicate_succ, List.flatten_cons, List.flatten_cons]
    exact r.append (RepL.rep r k)
theorem big_lt {j : Int} (h : big j = true) : -(2 ^ 64) < j ∧ j < 2 ^ 64 := by
  unfold big at h
  simp only [Bool.and_eq_true, decide_eq_true_eq] at h
  exact h
theorem ok_mul {K : PySem.W.Frag} : Ok2 K rMulU mulG := fun Wx M ι s H x y u v Q C rx ry P => by
  have s1 := C.sees rx
  unfold mulG at P
  split at P
  · rename_i e1
    rw [e1] at s1
    split at P
    · rename_i hb
      exact .inl ⟨_, _, s1.int, ry.int, hb.imp big_lt big_lt, Post.now (C := Rep K) P C rf_int⟩
    · exact P.elim
  · rename_i a k e1
    rw [e1] at s1
    split at P
    · rename_i hc
      obtain ⟨p, vs, rfl, h1, r1⟩ := s1
      exact .inr ⟨p, k, vs, rfl, ry.int, h1, by have := (sm_lt hc.1).1; omega, by have := (sm_lt hc.1).2; omega, by rw [r1.length]; exact lim_le hc.2, fun l hl => Post.laidL P C (r1.rep _) hl⟩
    · exact P.elim
  · exact P.elim
end
/-- a law of the layer: the written part, the function, what it is as a function -/
theorem law_end {l : PySem.W.OpenLaw} {k : Nat} {q : Program} {loose : List Str} {XP : (Str → Option Value) → Heap → Prop} {YP : World → Heap → Prop} {d : DefRec} {m : FF}
    (hn : l.most = some 63) (hdf : d.params.defaults = []) (hr : Room k callerA) (hm : ∀ ns : List Int, ns.length ≤ 63 → ∃ s, m [.scr ns] [] = .val (.bl true) s)
    (F : ∀ (w : World) (mg : Str → Option Value) (f : Addr) (h : Heap), YP w h → h.Ns mainGlobals mg → mg d.name = some (.ref f) →
      ∃ (K : PySem.W.Frag) (fd : FuncData) (cl : Nat → Value), K.In h ∧ (∀ (s : Shared) (u : Value), BindsTo s fd ⟨[u], []⟩ [("script", u)]) ∧ ∀ base : Heap, K.In base → base.Ns mainGlobals mg → FnOk l.prog w K mg base (L2.CX l.prog w) k f fd ["script"] (SpF K cl 1 m)) :
    PySem.W.WalkO q loose XP YP l.row.toRowW d [] (fun f vs => PySem.call f vs) := by
  refine Att.attach_call hn hdf ?_
  intro w _ s₁ mg _ f _ _ _ _ a _ ns G Y _ _ _ hmg hobj his hlen hg
  obtain ⟨K, fd, cl, KX, hb, hF⟩ := F w mg f _ Y G.T.g hmg
  have hz : ns.length ≤ sizeLine := Nat.le_trans hlen (by decide)
  exact law_call KX G.T.g G.T.b G.T.builtins G.T.nolimit hg hobj his hz hr hF hb (fun H _ hS => law_sp hm H a ns hlen hS) fun _ _ _ h => cx_none h
end Fl
set_option Elab.async false
set_option linter.all false
set_option maxRecDepth 100000
namespace Fl
/-! ### how functions on data are reckoned -/
section
variable {δ : Sl} {s : Sto} {i j : Nat} {d x y : D} {f fa fb fc : EF} {fr : AF} {ff fg : SF} {ta tb : BF}
@[simp] theorem e_var : varF i δ s = (match δ[i]? with | some (some d) => .val d s | _ => .stuck) := rfl
@[simp] theorem e_c : cF d δ s = .val d s := rfl
@[simp] theorem e_bin {g : Op2} : bin g fa fb δ s = (fa δ s).bind fun x s1 => (fb δ s1).bind fun y s2 => g s2 x y := rfl
@[simp] theorem e_una {g : Op1} : una g fa δ s = (fa δ s).bind fun x s1 => g s1 x := rfl
@[simp] theorem e_nil : nil δ s = .val [] s := rfl
@[simp] theorem e_con : con fa fr δ s = (fa δ s).bind fun x s1 => (fr δ s1).bind fun xs s2 => .val (x :: xs) s2 := rfl
@[simp] theorem e_fnB {g : Sto → List D → O D} : fnB g fr δ s = (fr δ s).bind fun xs s1 => g s1 xs := rfl
@[simp] theorem e_chain {g g' : Op2} : chain g g' fa fb fc δ s = (fa δ s).bind fun x s1 => (fb δ s1).bind fun y s2 => (g s2 x y).bind fun z s3 => match z with
  | .bl true => (fc δ s3).bind fun w s4 => g' s4 y w
  | .bl false => .val (.bl false) s3
  | _ => .stuck := rfl
@[simp] theorem e_tst : tst fa δ s = (fa δ s).bind fun x s1 => match x with
  | .bl b => .val b s1
  | _ => .stuck := rfl
@[simp] theorem e_andT : andT ta tb δ s = (ta δ s).bind fun b s1 => if b = true then tb δ s1 else .val false s1 := rfl
@[simp] theorem e_orT : orT ta tb δ s = (ta δ s).bind fun b s1 => if b = true then .val true s1 else tb δ s1 := rfl
@[simp] theorem e_notT : notT ta δ s = (ta δ s).bind fun b s1 => .val (!b) s1 := rfl
@[simp] theorem e_andE : andE fa fb δ s = (fa δ s).bind fun x s1 => match x with
  | .bl true => fb δ s1
  | .bl false => .val (.bl false) s1
  | _ => .stuck := rfl
@[simp] theorem e_orE : orE fa fb δ s = (fa δ s).bind fun x s1 => match x with
  | .bl false => fb δ s1
  | .bl true => .val (.bl true) s1
  | _ => .stuck := rfl
@[simp] theorem e_notE : notE fa δ s = (fa δ s).bind fun x s1 => match x with
  | .bl b => .val (.bl (!b)) s1
  | _ => .stuck := rfl
@[simp] theorem e_ite : iteE ta fa fb δ s = (ta δ s).bind fun b s1 => if b = true then fa δ s1 else fb δ s1 := rfl
@[simp] theorem e_tup : tupE fr δ s = (fr δ s).bind fun xs s1 => if flats xs = true ∧ xs.length ≤ 16000000 then .val (.tup xs) s1 else .stuck := rfl
@[simp] theorem e_lst : lstE fr δ s = (fr δ s).bind fun xs s1 => if flats xs = true ∧ xs.length ≤ 16000000 then .val (.lst xs) s1 else .stuck := rfl
@[simp] theorem e_own : ownE fr δ s = (fr δ s).bind fun xs s1 => if flats xs = true ∧ xs.length ≤ 16000000 then .val (.ob s1.length) (s1 ++ [.lst xs]) else .stuck := rfl
@[simp] theorem e_call {n : Nat} {F : FF} : callF n F fr δ s = (fr δ s).bind fun xs s1 => if xs.length = n then F xs s1 else .stuck := rfl
@[simp] theorem e_walk : walkF f δ s = (f δ s).bind fun d s1 => match d with
  | .lst ds => .val ds s1
  | .tup ds => .val ds s1
  | .str cs => .val (cs.map fun c => .str [c]) s1
  | _ => .stuck := rfl
@[simp] theorem e_rng1 : rng1F fr δ s = (fr δ s).bind fun ds s1 => match ds with
  | [.int j] => if sm j = true then .val (upI 0 j.toNat) s1 else .stuck
  | _ => .stuck := rfl
@[simp] theorem e_rng2 : rng2F fr δ s = (fr δ s).bind fun ds s1 => match ds with
  | [.int i, .int j] => if sm i = true ∧ sm j = true then .val (upI i (j - i).toNat) s1 else .stuck
  | _ => .stuck := rfl
@[simp] theorem e_comp {fi : AF} {vs : List Nat} {g : GF} {t : BF} {e : EF} : compF fi vs g t e δ s = (fi δ s).bind fun xs s1 => (loopC g t e (wipeD δ vs) xs [] s1).bind fun ds s2 => .val (.lst ds) s2 := rfl
@[simp] theorem e_compO {fi : AF} {vs : List Nat} {g : GF} {t : BF} {e : EF} : compO fi vs g t e δ s = (fi δ s).bind fun xs s1 => (loopC g t e (wipeD δ vs) xs [] s1).bind fun ds s2 => .val (.ob s2.length) (s2 ++ [.lst ds]) := rfl
/-! statements -/
@[simp] theorem e_set : setS i f δ s = (f δ s).go δ fun d s1 => .nx (δ.set i (some d)) s1 := rfl
@[simp] theorem e_asg {g : GF} : asgS' f g δ s = (f δ s).go δ fun d s1 => (noX (g d δ s1)).go δ fun δ' s2 => .nx δ' s2 := rfl
@[simp] theorem e_name : nameG i d δ s = .val (δ.set i (some d)) s := rfl
@[simp] theorem e_tupG {gs : List GF} : tupG gs d δ s = (match d with
  | .tup ds => if ds.length = gs.length then unp gs ds δ s else .stuck
  | _ => .stuck) := rfl
@[simp] theorem e_unp0 : unp [] [] δ s = .val δ s := rfl
@[simp] theorem e_unp1 {g : GF} {gs : List GF} {ds : List D} : unp (g :: gs) (d :: ds) δ s = (noX (g d δ s)).bind fun δ1 s1 => unp gs ds δ1 s1 := rfl
@[simp] theorem noX_val : noX (.val δ s) = .val δ s := rfl
@[simp] theorem noX_stuck : noX .stuck = .stuck := rfl
@[simp] theorem quiet_val {α : Type} {a : α} : quiet (.val a s) = .val a s := rfl
@[simp] theorem quiet_stuck {α : Type} : quiet (.stuck : O α) = .stuck := rfl
@[simp] theorem e_par : parS i j fr δ s = (fr δ s).go δ fun ds s1 => match ds with
  | [x, y] => .nx ((δ.set i (some x)).set j (some y)) s1
  | _ => .stuck := rfl
@[simp] theorem e_par3 {l : Nat} : par3S i j l fr δ s = (fr δ s).go δ fun ds s1 => match ds with
  | [x, y, z] => .nx (((δ.set i (some x)).set j (some y)).set l (some z)) s1
  | _ => .stuck := rfl
@[simp] theorem e_aug {g : Int → Int → Int} : augS g i f δ s = (match δ[i]? with
  | some (some (.int x)) => (f δ s).go δ fun d s1 => match d with
    | .int y => .nx (δ.set i (some (.int (g x y)))) s1
    | _ => .stuck
  | _ => .stuck) := rfl
@[simp] theorem e_drop : dropS f δ s = (f δ s).go δ fun _ s1 => .nx δ s1 := rfl
@[simp] theorem e_ret : retS f δ s = (f δ s).go δ fun d s1 => .rt d s1 := rfl
@[simp] theorem e_pass : passS δ s = .nx δ s := rfl
@[simp] theorem e_brk : brkS δ s = .bk δ s := rfl
@[simp] theorem e_ct : ctS δ s = .ct δ s := rfl
@[simp] theorem e_retN : retN δ s = .rt .non s := rfl
@[simp] theorem e_seq : seqS ff fg δ s = (ff δ s).then fg := rfl
@[simp] theorem e_if : ifS ta ff fg δ s = (ta δ s).go δ fun b s1 => if b = true then ff δ s1 else fg δ s1 := rfl
@[simp] theorem e_for {fi : AF} {g : GF} : forS fi g ff δ s = (fi δ s).go δ fun xs s1 => loopS g ff xs δ s1 := rfl
@[simp] theorem outF_rt {n : Nat} : outF n (.rt d s) = if flat d = true then .val d (s.take n) else .stuck := rfl
@[simp] theorem outF_exc {n c : Nat} : outF n (.exc c δ s) = .exc c (s.take n) := rfl
@[simp] theorem take_set {t : Nat} {o : SO} : (s.set t o).take s.length = s.set t o := List.take_of_length_le (by simp)
@[simp] theorem pow18 : powG s (.int 10) (.int 18) = .val (.int 1000000000000000000) s := rfl
@[simp] theorem pow12 : powG s (.int 10) (.int 12) = .val (.int 1000000000000) s := rfl
@[simp] theorem outF_nx {n : Nat} : outF n (.nx δ s) = .val .non (s.take n) := rfl
/-! values -/
@[simp] theorem flat_non : flat .non = true := rfl
@[simp] theorem flat_bl {b : Bool} : flat (.bl b) = true := rfl
@[simp] theorem flat_int {b : Int} : flat (.int b) = true := rfl
@[simp] theorem flat_str {b : List Nat} : flat (.str b) = true := rfl
@[simp] theorem flat_tup {b : List D} : flat (.tup b) = true := rfl
@[simp] theorem flat_lst {b : List D} : flat (.lst b) = true := rfl
@[simp] theorem flat_ty {b : String} : flat (.ty b) = true := rfl
@[simp] theorem flats_nil : flats [] = true := rfl
@[simp] theorem flats_cons {ds : List D} : flats (d :: ds) = (flat d && flats ds) := by simp [flats]
@[simp] theorem dep_non : dep .non = 0 := by unfold dep; rfl
@[simp] theorem dep_bl {b : Bool} : dep (.bl b) = 0 := by unfold dep; rfl
@[simp] theorem dep_int {b : Int} : dep (.int b) = 0 := by unfold dep; rfl
@[simp] theorem dep_str {b : List Nat} : dep (.str b) = 0 := by unfold dep; rfl
@[simp] theorem dep_tup {b : List D} : dep (.tup b) = deps b + 1 := by rw [dep]
@[simp] theorem dep_lst {b : List D} : dep (.lst b) = deps b + 1 := by rw [dep]
@[simp] theorem deps_nil : deps [] = 0 := by rw [deps]
@[simp] theorem deps_cons {ds : List D} : deps (d :: ds) = max (dep d) (deps ds) := by rw [deps]
@[simp] theorem deq_int {i j : Int} : deq (.int i) (.int j) = (i == j) := by simp [deq, toPy, PySem.PyData.eqv]
@[simp] theorem deq_bl {i j : Bool} : deq (.bl i) (.bl j) = (i == j) := by simp [deq, toPy, PySem.PyData.eqv]
@[simp] theorem deq_str {a b : List Nat} : deq (.str a) (.str b) = (a == b) := by
  simp only [deq, toPy, PySem.PyData.eqv]
  exact SX.S_beq a b
@[simp] theorem deq_non : deq .non .non = true := by simp [deq, toPy, PySem.PyData.eqv]
@[simp] theorem deq_lst {a b : List D} : deq (.lst a) (.lst b) = deqs a b := by simp [deq, deqs, toPy, PySem.PyData.eqv]
@[simp] theorem deq_tup {a b : List D} : deq (.tup a) (.tup b) = deqs a b := by simp [deq, deqs, toPy, PySem.PyData.eqv]
@[simp] theorem deqs_nil : deqs [] [] = true := by simp [deqs, toPys, PySem.PyData.eqvAll]
@[simp] theorem deqs_cons {a b : List D} : deqs (x :: a) (y :: b) = (deq x y && deqs a b) := by simp [deq, deqs, toPys, PySem.PyData.eqvAll]
@[simp] theorem deqs_nil_cons {b : List D} : deqs [] (y :: b) = false := by simp [deqs, toPys, PySem.PyData.eqvAll]
@[simp] theorem deqs_cons_nil {b : List D} : deqs (y :: b) [] = false := by simp [deqs, toPys, PySem.PyData.eqvAll]
/-! operations -/
@[simp] theorem eqG_def : eqG s x y = if dep (view s x) ≤ 60 ∧ dep (view s y) ≤ 60 then .val (.bl (deq (view s x) (view s y))) s else .stuck := rfl
@[simp] theorem neG_def : neG s x y = if dep (view s x) ≤ 60 ∧ dep (view s y) ≤ 60 then .val (.bl (!deq (view s x) (view s y))) s else .stuck := rfl
@[simp] theorem subG_int {i j : Int} : subG s (.int i) (.int j) = .val (.int (i - j)) s := rfl
@[simp] theorem ltG_int {i j : Int} : ltG s (.int i) (.int j) = .val (.bl (decide (i < j))) s := rfl
@[simp] theorem leG_int {i j : Int} : leG s (.int i) (.int j) = .val (.bl (decide (i ≤ j))) s := rfl
@[simp] theorem gtG_int {i j : Int} : gtG s (.int i) (.int j) = .val (.bl (decide (j < i))) s := rfl
@[simp] theorem geG_int {i j : Int} : geG s (.int i) (.int j) = .val (.bl (decide (j ≤ i))) s := rfl
theorem modG_int {i j : Int} (h : 0 < j) : modG s (.int i) (.int j) = .val (.int (i % j)) s := if_pos (decide_eq_true h)
theorem divG_int {i j : Int} (h : 0 < j) (h2 : j < 2 ^ 64) : divG s (.int i) (.int j) = .val (.int (i / j)) s := if_pos (by simp only [Bool.and_eq_true, decide_eq_true_eq]; exact ⟨h, h2⟩)
@[simp] theorem negG_int {i : Int} : negG s (.int i) = .val (.int (-i)) s := rfl
@[simp] theorem addG_int {i j : Int} : addG s (.int i) (.int j) = .val (.int (i + j)) s := rfl
theorem addG_str {a b : List Nat} (h : a.length + b.length ≤ 16000000) : addG s (.str a) (.str b) = .val (.str (a ++ b)) s := if_pos h
theorem addG_lst {a b : List D} (h : a.length + b.length ≤ 16000000) : addG s (.lst a) (.lst b) = .val (.lst (a ++ b)) s := if_pos h
theorem addG_tup {a b : List D} (h : a.length + b.length ≤ 16000000) : addG s (.tup a) (.tup b) = .val (.tup (a ++ b)) s := if_pos h
theorem mulG_l {i j : Int} (h : big i = true) : mulG s (.int i) (.int j) = .val (.int (i * j)) s := if_pos (.inl h)
theorem mulG_r {i j : Int} (h : big j = true) : mulG s (.int i) (.int j) = .val (.int (i * j)) s := if_pos (.inr h)
@[simp] theorem isNG_non : isNG s .non .non = .val (.bl true) s := rfl
@[simp] theorem isNG_bl {a b : Bool} : isNG s (.bl a) (.bl b) = .val (.bl (a == b)) s := rfl
@[simp] theorem isntG_non : isntG s .non .non = .val (.bl false) s := rfl
@[simp] theorem isntG_bl {a b : Bool} : isntG s (.bl a) (.bl b) = .val (.bl (!(a == b))) s := rfl
@[simp] theorem intOf_bl {b : Bool} : intOf s [.bl b] = .val (.int (if b then 1 else 0)) s := rfl
@[simp] theorem lenG_lst {ds : List D} : lenG s [.lst ds] = .val (.int ds.length) s := rfl
@[simp] theorem lenG_tup {ds : List D} : lenG s [.tup ds] = .val (.int ds.length) s := rfl
theorem lenG_str {cs : List Nat} (h : cs.length ≤ 16000000) : lenG s [.str cs] = .val (.int cs.length) s := if_pos h
theorem ixG_str {cs : List Nat} {i : Int} {c : Nat} (h : cs.length ≤ 16000000) (e : L2.atI cs i = some c) : ixG s (.str cs) (.int i) = .val (.str [c]) s := by
  simp only [ixG, view_str, if_pos h, e]
@[simp] theorem ixG_wf {i : Int} : ixG s (.str [119, 102]) (.int i) = (match L2.atI [119, 102] i with
  | some c => .val (.str [c]) s
  | none => .stuck) := rfl
theorem ixG_lst {ds : List D} {i : Int} (e : L2.atI ds i = some d) : ixG s (.lst ds) (.int i) = .val d s := by simp only [ixG, view_lst, e]
theorem ixG_tup {ds : List D} {i : Int} (e : L2.atI ds i = some d) : ixG s (.tup ds) (.int i) = .val d s := by simp only [ixG, view_tup, e]
theorem ixG_ob {ds : List D} {i : Int} {k : Nat} (h : s[k]? = some (.lst ds)) (e : L2.atI ds i = some d) : ixG s (.ob k) (.int i) = .val d s := by simp only [ixG, view_ob h, e]
@[simp] theorem ixG_obD {i : Int} {k : Nat} : ixG s (.ob k) (.int i) = (match s[k]? with
  | some (.lst ds) => (match L2.atI ds i with
    | some d => .val d s
    | none => .stuck)
  | _ => .stuck) := by
  cases h : s[k]? with
  | none => simp [ixG, view, h]
  | some o =>
    cases o with
    | dead => simp [ixG, view, h]
    | lst ds =>
      simp only [ixG, view, h] <;> (cases L2.atI ds i <;> rfl)
@[simp] theorem lenG_obD {k : Nat} : lenG s [.ob k] = (match s[k]? with
  | some (.lst ds) => .val (.int ds.length) s
  | _ => .stuck) := by
  cases h : s[k]? with
  | none => simp [lenG, view, h]
  | some o => cases o <;> simp [lenG, view, h]
theorem view_obD {k : Nat} : view s (.ob k) = (match s[k]? with
  | some (.lst ds) => .lst ds
  | _ => .ob k) := rfl
@[simp] theorem e_setI {fo fi : EF} : setI fo fi d δ s = (fo δ s).bind fun x s1 => (fi δ s1).bind fun y s2 => match x, y with
  | .ob k, .int i => match s2[k]? with
    | some (.lst ds) => match L2.ixN ds.length i with
      | some j => if flat d = true then .val δ (s2.set k (.lst (ds.set j d))) else .stuck
      | none => .stuck
    | _ => .stuck
  | _, _ => .stuck := rfl
@[simp] theorem listF_scr {ns : List Int} : listF s [.scr ns] = .val (.lst (ns.map D.int)) s := rfl
@[simp] theorem listF_lst {ns : List D} : listF s [.lst ns] = .val (.lst ns) s := rfl
@[simp] theorem listF_tup {ns : List D} : listF s [.tup ns] = .val (.lst ns) s := rfl
end
@[simp] theorem atI_0 {α : Type} {a : α} {l : List α} : L2.atI (a :: l) 0 = some a := L2.atI_nat (j := 0) rfl
@[simp] theorem atI_1 {α : Type} {a b : α} {l : List α} : L2.atI (a :: b :: l) 1 = some b := L2.atI_nat (j := 1) rfl
@[simp] theorem atI_2 {α : Type} {a b c : α} {l : List α} : L2.atI (a :: b :: c :: l) 2 = some c := L2.atI_nat (j := 2) rfl
@[simp] theorem atI_3 {α : Type} {a b c d : α} {l : List α} : L2.atI (a :: b :: c :: d :: l) 3 = some d := L2.atI_nat (j := 3) rfl
@[simp] theorem ixN_0 {n : Nat} : L2.ixN (n + 1) 0 = some 0 := by unfold L2.ixN; rw [if_pos (by omega), if_pos (by omega)]; rfl
@[simp] theorem ixN_1 {n : Nat} : L2.ixN (n + 1 + 1) 1 = some 1 := by unfold L2.ixN; rw [if_pos (by omega), if_pos (by omega)]; rfl
@[simp] theorem ixN_2 {n : Nat} : L2.ixN (n + 1 + 1 + 1) 2 = some 2 := by unfold L2.ixN; rw [if_pos (by omega), if_pos (by omega)]; rfl
section
variable {a b c e : D} {l : List D} {s : Sto}
@[simp] theorem ixG_l0 : ixG s (.lst (a :: l)) (.int 0) = .val a s := ixG_lst atI_0
@[simp] theorem ixG_l1 : ixG s (.lst (a :: b :: l)) (.int 1) = .val b s := ixG_lst atI_1
@[simp] theorem ixG_l2 : ixG s (.lst (a :: b :: c :: l)) (.int 2) = .val c s := ixG_lst atI_2
@[simp] theorem ixG_l3 : ixG s (.lst (a :: b :: c :: e :: l)) (.int 3) = .val e s := ixG_lst atI_3
@[simp] theorem ixG_t0 : ixG s (.tup (a :: l)) (.int 0) = .val a s := ixG_tup atI_0
@[simp] theorem ixG_t1 : ixG s (.tup (a :: b :: l)) (.int 1) = .val b s := ixG_tup atI_1
@[simp] theorem ixG_t2 : ixG s (.tup (a :: b :: c :: l)) (.int 2) = .val c s := ixG_tup atI_2
@[simp] theorem ixG_t3 : ixG s (.tup (a :: b :: c :: e :: l)) (.int 3) = .val e s := ixG_tup atI_3
end
end Fl
set_option Elab.async false
set_option linter.all false
set_option maxRecDepth 100000
namespace Fl
open PySem PySem.Spec PyProof.Rows L2
/-! due_day -/
def N_due_day : List Str := ["row", "start", "count", "left", "day"]
def l_due_day_1 : SF :=
    seqS (ifS (tst (bin eqG (bin ixG (varF 0) (varF 4)) (cF (.str [119])))) (augS (fun i j => i - j) 3 (cF (.int 1))) (passS))
    (ifS (tst (bin eqG (varF 3) (cF (.int 0)))) (retS (varF 4)) (passS))
def b_due_day : SF :=
    seqS (setS 3 (varF 2))
    (seqS (forS (rng2F (con (bin addG (varF 1) (cF (.int 1))) (con (fnB lenG (con (varF 0) (nil))) (nil)))) (nameG 4) (l_due_day_1))
    (retS (fnB lenG (con (varF 0) (nil)))))
def m_due_day : FF := fnF N_due_day 3 b_due_day
/-! keeps -/
def N_keeps : List Str := ["row", "promise", "kind", "start", "count", "end", "due"]
def b_keeps : SF :=
    seqS (asgS' (varF 1) (tupG [(nameG 2), (nameG 3), (nameG 4), (nameG 5)]))
    (seqS (setS 6 (callF 3 m_due_day (con (varF 0) (con (varF 3) (con (varF 4) (nil))))))
    (seqS (ifS (tst (bin eqG (varF 2) (cF (.str [98, 121])))) (retS (bin leG (varF 6) (varF 5))) (passS))
    (retS (iteE (tst (bin eqG (varF 2) (cF (.str [102, 114, 111, 109])))) (bin geG (varF 6) (varF 5)) (bin eqG (varF 6) (varF 5))))))
def m_keeps : FF := fnF N_keeps 2 b_keeps
/-! _law_draw -/
def N_law_draw : List Str := ["tape", "many", "prime", "cell", "found"]
def b_law_draw : SF :=
    seqS (setS 2 (cF (.int 2305843009213693951)))
    (seqS (ifS (tst (bin ltG (bin ixG (varF 0) (cF (.int 2))) (varF 1))) (seqS (setS 3 (cF (.int 0)))
    (seqS (ifS (tst (bin gtG (fnB lenG (con (bin ixG (varF 0) (cF (.int 0))) (nil))) (cF (.int 0)))) (setS 3 (bin ixG (bin ixG (varF 0) (cF (.int 0))) (bin modG (bin ixG (varF 0) (cF (.int 1))) (fnB lenG (con (bin ixG (varF 0) (cF (.int 0))) (nil)))))) (passS))
    (seqS (ifS (orT (tst (bin geG (bin ixG (varF 0) (cF (.int 1))) (fnB lenG (con (bin ixG (varF 0) (cF (.int 0))) (nil))))) (tst (bin ltG (varF 3) (bin powG (cF (.int 10)) (cF (.int 18)))))) (seqS (setS 3 (bin modG (bin addG (varF 3) (bin mulG (cF (.int 1000003)) (bin ixG (varF 0) (cF (.int 1))))) (varF 2)))
    (seqS (setS 3 (bin modG (bin addG (bin addG (bin mulG (varF 3) (varF 3)) (bin mulG (cF (.int 1181783497276652981)) (varF 3))) (cF (.int 2049848353892358983))) (varF 2)))
    (setS 3 (bin modG (bin addG (bin mulG (varF 3) (varF 3)) (cF (.int 1442695040888963407))) (varF 2))))) (passS))
    (seqS (asgS' (bin addG (bin ixG (varF 0) (cF (.int 1))) (cF (.int 1))) (setI (varF 0) (cF (.int 1))))
    (asgS' (varF 3) (setI (varF 0) (cF (.int 2)))))))) (passS))
    (seqS (setS 4 (bin modG (bin ixG (varF 0) (cF (.int 2))) (varF 1)))
    (seqS (asgS' (bin divG (bin ixG (varF 0) (cF (.int 2))) (varF 1)) (setI (varF 0) (cF (.int 2))))
    (retS (varF 4)))))
def m_law_draw : FF := fnF N_law_draw 2 b_law_draw
/-! _law_like -/
def N_law_like : List Str := ["one", "two", "k"]
def b_law_like (R : FF) : SF :=
    seqS (ifS (tst (fnB isiG (con (varF 0) (con (tupE (con (cF (.ty "list")) (con (cF (.ty "tuple")) (nil)))) (nil))))) (seqS (ifS (orT (tst (bin neG (fnB isiG (con (varF 0) (con (cF (.ty "list")) (nil)))) (fnB isiG (con (varF 1) (con (cF (.ty "list")) (nil)))))) (tst (bin neG (fnB isiG (con (varF 0) (con (cF (.ty "tuple")) (nil)))) (fnB isiG (con (varF 1) (con (cF (.ty "tuple")) (nil))))))) (retS (cF (.bl false))) (passS))
    (seqS (ifS (tst (bin neG (fnB lenG (con (varF 0) (nil))) (fnB lenG (con (varF 1) (nil))))) (retS (cF (.bl false))) (passS))
    (retS (bin eqG (compF (rng1F (con (fnB lenG (con (varF 0) (nil))) (nil))) [2] (nameG 2) (notT (tst (callF 2 R (con (bin ixG (varF 0) (varF 2)) (con (bin ixG (varF 1) (varF 2)) (nil)))))) (varF 2)) (lstE (nil)))))) (passS))
    (seqS (ifS (tst (fnB isiG (con (varF 1) (con (tupE (con (cF (.ty "list")) (con (cF (.ty "tuple")) (nil)))) (nil))))) (retS (cF (.bl false))) (passS))
    (retS (andE (bin eqG (fnB isiG (con (varF 0) (con (cF (.ty "bool")) (nil)))) (fnB isiG (con (varF 1) (con (cF (.ty "bool")) (nil))))) (bin eqG (varF 0) (varF 1)))))
def m_law_like_n : Nat → FF
  | 0 => fun _ _ => .stuck
  | k + 1 => fnF N_law_like 2 (b_law_like (m_law_like_n k))
def m_law_like : FF := m_law_like_n 4
/-! _law_row -/
def N_law_row : List Str := ["tape", "days", "much", "found", "day"]
def l_law_row_1 : SF :=
    setS 3 (bin addG (varF 3) (bin ixG (cF (.str [119, 102])) (fnB intOf (con (bin eqG (callF 2 m_law_draw (con (varF 0) (con (bin addG (varF 2) (cF (.int 1))) (nil)))) (cF (.int 0))) (nil)))))
def b_law_row : SF :=
    seqS (parS 2 3 (con (bin ixG (lstE (con (cF (.int 1)) (con (cF (.int 2)) (con (cF (.int 5)) (nil))))) (callF 2 m_law_draw (con (varF 0) (con (cF (.int 3)) (nil))))) (con (cF (.str [])) (nil))))
    (seqS (forS (rng1F (con (varF 1) (nil))) (nameG 4) (l_law_row_1))
    (retS (varF 3)))
def m_law_row : FF := fnF N_law_row 2 b_law_row
/-! _law_due -/
def N_law_due : List Str := ["row", "start", "count", "some", "day"]
def b_law_due : SF :=
    seqS (setS 3 (compF (rng2F (con (bin addG (varF 1) (cF (.int 1))) (con (fnB lenG (con (varF 0) (nil))) (nil)))) [4] (nameG 4) (tst (bin eqG (bin ixG (varF 0) (varF 4)) (cF (.str [119])))) (varF 4)))
    (retS (iteE (tst (bin leG (varF 2) (fnB lenG (con (varF 3) (nil))))) (bin ixG (varF 3) (bin subG (varF 2) (cF (.int 1)))) (fnB lenG (con (varF 0) (nil)))))
def m_law_due : FF := fnF N_law_due 3 b_law_due
/-! law -/
def N_law_k02 : List Str := ["script", "tape", "turn", "row", "days", "ask", "start", "count", "end", "told", "due", "kind"]
def l_law_k02_1 : SF :=
    seqS (setS 6 (bin subG (callF 2 m_law_draw (con (varF 1) (con (varF 4) (nil)))) (cF (.int 1))))
    (seqS (asgS' (tupE (con (bin addG (cF (.int 1)) (callF 2 m_law_draw (con (varF 1) (con (varF 4) (nil))))) (con (bin addG (bin addG (varF 6) (cF (.int 1))) (callF 2 m_law_draw (con (varF 1) (con (bin subG (bin subG (varF 4) (cF (.int 1))) (varF 6)) (nil))))) (nil)))) (tupG [(nameG 7), (nameG 8)]))
    (seqS (setS 9 (compF (walkF (tupE (con (cF (.str [111, 110])) (con (cF (.str [98, 121])) (con (cF (.str [102, 114, 111, 109])) (nil)))))) [11] (nameG 11) (yes) (callF 2 m_keeps (con (varF 3) (con (tupE (con (varF 11) (con (varF 6) (con (varF 7) (con (varF 8) (nil)))))) (nil))))))
    (seqS (setS 10 (callF 3 m_law_due (con (varF 3) (con (varF 6) (con (varF 7) (nil))))))
    (seqS (ifS (notT (tst (callF 2 m_law_like (con (varF 9) (con (lstE (con (bin eqG (varF 10) (varF 8)) (con (bin leG (varF 10) (varF 8)) (con (bin geG (varF 10) (varF 8)) (nil))))) (nil)))))) (retS (cF (.bl false))) (passS))
    (ifS (tst (bin neG (bin ixG (varF 9) (cF (.int 0))) (andE (bin ixG (varF 9) (cF (.int 1))) (bin ixG (varF 9) (cF (.int 2)))))) (retS (cF (.bl false))) (passS))))))
def l_law_k02_2 : SF :=
    seqS (setS 3 (callF 2 m_law_row (con (varF 1) (con (bin addG (cF (.int 1)) (callF 2 m_law_draw (con (varF 1) (con (cF (.int 31)) (nil))))) (nil)))))
    (seqS (setS 4 (fnB lenG (con (varF 3) (nil))))
    (forS (rng1F (con (cF (.int 12)) (nil))) (nameG 5) (l_law_k02_1)))
def b_law_k02 : SF :=
    seqS (setS 1 (ownE (con (fnB listF (con (varF 0) (nil))) (con (cF (.int 0)) (con (cF (.int 0)) (nil))))))
    (seqS (forS (rng1F (con (cF (.int 6)) (nil))) (nameG 2) (l_law_k02_2))
    (retS (andE (bin isNG (callF 2 m_keeps (con (cF (.str [102, 102])) (con (tupE (con (cF (.str [102, 114, 111, 109])) (con (una negG (cF (.int 1))) (con (cF (.int 1)) (con (cF (.int 1)) (nil)))))) (nil)))) (cF (.bl true))) (bin isNG (callF 2 m_keeps (con (cF (.str [102, 102])) (con (tupE (con (cF (.str [98, 121])) (con (una negG (cF (.int 1))) (con (cF (.int 1)) (con (cF (.int 1)) (nil)))))) (nil)))) (cF (.bl false))))))
def m_law_k02 : FF := fnF N_law_k02 1 b_law_k02
end Fl
set_option Elab.async false
set_option linter.all false
set_option maxRecDepth 100000
set_option maxHeartbeats 1000000
namespace Fl
open L2
/-! ### the tape -/
structure Tp where
  ns : List Int
  i : Int
  c : Int
def Tp.o (p : Tp) : SO := .lst [.lst (p.ns.map .int), .int p.i, .int p.c]
structure Tp.ok (p : Tp) : Prop where
  i0 : 0 ≤ p.i
  c0 : 0 ≤ p.c
theorem big_of {i : Int} (h : -(2 ^ 64) < i) (h2 : i < 2 ^ 64) : big i = true := by
  simp only [big, Bool.and_eq_true, decide_eq_true_eq]; exact ⟨h, h2⟩
def mix1 (x i : Int) : Int := (x + 1000003 * i) % 2305843009213693951
def mix2 (y : Int) : Int := (y * y + 1181783497276652981 * y + 2049848353892358983) % 2305843009213693951
def mix (x i : Int) : Int := (mix2 (mix1 x i) * mix2 (mix1 x i) + 1442695040888963407) % 2305843009213693951
theorem draw_spec {t : Nat} {s : Sto} {p : Tp} {many : Int} (hs : s[t]? = some p.o) (hp : p.ok) (h1 : 1 ≤ many) (h2 : many < 2 ^ 64) :
    ∃ v p', m_law_draw [.ob t, .int many] s = .val (.int v) (s.set t (Tp.o p')) ∧ p'.ok ∧ 0 ≤ v ∧ v < many := by
  obtain ⟨ns, i, c⟩ := p
  obtain ⟨i0, c0⟩ := hp
  simp only at i0 c0
  have ht : t < s.length := (List.getElem?_eq_some_iff.mp hs).1
  have hset : ∀ o : SO, (s.set t o)[t]? = some o := fun o => List.getElem?_set_self ht
  have hs' : s[t]? = some (.lst [.lst (ns.map .int), .int i, .int c]) := hs
  by_cases hc : c < many
  · have key : ∀ c1 : Int, 0 ≤ c1 → m_law_draw [.ob t, .int many] s = .val (.int (c1 % many)) (s.set t (Tp.o ⟨ns, i + 1, c1 / many⟩)) → ∃ v p', m_law_draw [.ob t, .int many] s = .val (.int v) (s.set t (Tp.o p')) ∧ p'.ok ∧ 0 ≤ v ∧ v < many :=
      fun c1 hc1 e => ⟨c1 % many, ⟨ns, i + 1, c1 / many⟩, e, ⟨by show 0 ≤ i + 1; omega, Int.ediv_nonneg hc1 (by omega)⟩, Int.emod_nonneg _ (by omega), Int.emod_lt_of_pos _ (by omega)⟩
    have pp : (0 : Int) < 2305843009213693951 := by decide
    have bm : ∀ x : Int, big (x % 2305843009213693951) = true := fun x => big_of (by have := Int.emod_nonneg x (Int.ne_of_gt pp); omega) (by have := Int.emod_lt_of_pos x pp; omega)
    have b1 : big 1000003 = true := by decide
    have b2 : big 1181783497276652981 = true := by decide
    have go : ∀ x : Int, (m_law_draw [.ob t, .int many] s = .val (.int (mix x i % many)) (s.set t (Tp.o ⟨ns, i + 1, mix x i / many⟩)) ∨ (1000000000000000000 ≤ x ∧ m_law_draw [.ob t, .int many] s = .val (.int (x % many)) (s.set t (Tp.o ⟨ns, i + 1, x / many⟩)))) → ∃ v p', m_law_draw [.ob t, .int many] s = .val (.int v) (s.set t (Tp.o p')) ∧ p'.ok ∧ 0 ≤ v ∧ v < many := fun x h => by
      rcases h with h | ⟨h0, h⟩
      · exact key _ (Int.emod_nonneg _ (by decide)) h
      · exact key x (by omega) h
    by_cases hn : ns = []
    · subst hn
      refine go 0 (.inl ?_)
      simp [mix, mix1, mix2, m_law_draw, fnF, b_law_draw, N_law_draw, startD, hc, hs', modG_int (show 0 < many by omega), divG_int (show 0 < many by omega) h2, Tp.o, modG_int pp, mulG_l b1, mulG_l b2, mulG_l (bm _), hset]
    · have hl0 : 0 < ns.length := List.length_pos_iff.mpr hn
      have hl : (0 : Int) < (ns.length : Int) := by omega
      obtain ⟨x, hx⟩ : ∃ x, atI (ns.map D.int) (i % (ns.length : Int)) = some (.int x) := by
        have h3 := Int.emod_nonneg i (Int.ne_of_gt hl)
        have h4 := Int.emod_lt_of_pos i hl
        obtain ⟨k, hk⟩ := Int.eq_ofNat_of_zero_le h3
        have hk2 : k < ns.length := by omega
        refine ⟨ns[k], ?_⟩
        rw [hk]
        exact atI_nat (by rw [List.getElem?_map, List.getElem?_eq_getElem hk2]; rfl)
      refine go x ?_
      by_cases hq : (ns.length : Int) ≤ i
      · refine .inl ?_
        simp [mix, mix1, mix2, m_law_draw, fnF, b_law_draw, N_law_draw, startD, hc, hs', modG_int (show 0 < many by omega), divG_int (show 0 < many by omega) h2, Tp.o, modG_int pp, mulG_l b1, mulG_l b2, mulG_l (bm _), hset, modG_int hl, ixG_lst hx, hl0, hq]
      · by_cases hr : x < 1000000000000000000
        · refine .inl ?_
          simp [mix, mix1, mix2, m_law_draw, fnF, b_law_draw, N_law_draw, startD, hc, hs', modG_int (show 0 < many by omega), divG_int (show 0 < many by omega) h2, Tp.o, modG_int pp, mulG_l b1, mulG_l b2, mulG_l (bm _), hset, modG_int hl, ixG_lst hx, hl0, hq, hr]
        · refine .inr ⟨by omega, ?_⟩
          simp [mix, mix1, mix2, m_law_draw, fnF, b_law_draw, N_law_draw, startD, hc, hs', modG_int (show 0 < many by omega), divG_int (show 0 < many by omega) h2, Tp.o, modG_int pp, mulG_l b1, mulG_l b2, mulG_l (bm _), hset, modG_int hl, ixG_lst hx, hl0, hq, hr]
  · refine ⟨c % many, ⟨ns, i, c / many⟩, ?_, ⟨i0, Int.ediv_nonneg c0 (by omega)⟩, Int.emod_nonneg _ (by omega), Int.emod_lt_of_pos _ (by omega)⟩
    simp [m_law_draw, fnF, b_law_draw, N_law_draw, startD, hc, hs', modG_int (show 0 < many by omega), divG_int (show 0 < many by omega) h2, Tp.o]
/-- there is a tape at t | only the tape at t has turned -/
def Tap (t : Nat) (s : Sto) : Prop := ∃ p : Tp, p.ok ∧ s[t]? = some p.o
def Dr (t : Nat) (s s' : Sto) : Prop := ∃ p : Tp, p.ok ∧ s' = s.set t p.o
theorem Tap.refl {t : Nat} {s : Sto} (h : Tap t s) : Dr t s s := by
  obtain ⟨p, ok, e⟩ := h
  refine ⟨p, ok, ?_⟩
  obtain ⟨h1, h2⟩ := List.getElem?_eq_some_iff.mp e
  rw [← h2]; simp
theorem Tap.dr {t : Nat} {s s' : Sto} (h : Tap t s) (d : Dr t s s') : Tap t s' := by
  obtain ⟨p, ok, e⟩ := h
  obtain ⟨q, ok', rfl⟩ := d
  exact ⟨q, ok', List.getElem?_set_self (List.getElem?_eq_some_iff.mp e).1⟩
theorem Dr.trans {t : Nat} {s s1 s2 : Sto} (a : Dr t s s1) (b : Dr t s1 s2) : Dr t s s2 := by
  obtain ⟨p, ok, rfl⟩ := a
  obtain ⟨q, ok', rfl⟩ := b
  exact ⟨q, ok', by simp⟩
theorem Dr.len {t : Nat} {s s' : Sto} (a : Dr t s s') : s'.length = s.length := by
  obtain ⟨p, ok, rfl⟩ := a; simp
theorem Dr.take {t : Nat} {s s' : Sto} (a : Dr t s s') : s'.take s.length = s' := List.take_of_length_le (by rw [a.len]; exact Nat.le_refl _)
theorem Dr.get {t j : Nat} {s s' : Sto} (a : Dr t s s') (h : j ≠ t) : s'[j]? = s[j]? := by
  obtain ⟨p, ok, rfl⟩ := a
  rw [List.getElem?_set_ne (Ne.symm h)]
theorem draw {t : Nat} {s : Sto} {many : Int} (h : Tap t s) (h1 : 1 ≤ many) (h2 : many < 2 ^ 64) :
    ∃ v s', m_law_draw [.ob t, .int many] s = .val (.int v) s' ∧ Dr t s s' ∧ 0 ≤ v ∧ v < many := by
  obtain ⟨p, ok, e⟩ := h
  obtain ⟨v, p', h3, h4, h5, h6⟩ := draw_spec e ok h1 h2
  exact ⟨v, _, h3, ⟨p', h4, rfl⟩, h5, h6⟩
/-! ### loops -/
/-- one turn -/
def turn (g : GF) (body : SF) (x : D) (δ : Sl) (s : Sto) : OS := (noX (g x δ s)).go δ body
theorem loopS_cons {g : GF} {body : SF} {x : D} {xs : List D} {δ δ2 : Sl} {s s2 : Sto} (h : turn g body x δ s = .nx δ2 s2) : loopS g body (x :: xs) δ s = loopS g body xs δ2 s2 := by
  rw [loopS]
  unfold turn at h
  cases e : noX (g x δ s) with
  | stuck => rw [e] at h; cases h
  | exc c s' => rw [e] at h; cases h
  | val δ1 s1 =>
    rw [e, O.go_val] at h
    rw [O.go_val, h]
theorem loopS_rt {g : GF} {body : SF} {x d : D} {xs : List D} {δ : Sl} {s s2 : Sto} (h : turn g body x δ s = .rt d s2) : loopS g body (x :: xs) δ s = .rt d s2 := by
  rw [loopS]
  unfold turn at h
  cases e : noX (g x δ s) with
  | stuck => rw [e] at h; cases h
  | exc c s' => rw [e] at h; cases h
  | val δ1 s1 =>
    rw [e, O.go_val] at h
    rw [O.go_val, h]
@[simp] theorem loopS_nil {g : GF} {body : SF} {δ : Sl} {s : Sto} : loopS g body [] δ s = .nx δ s := rfl
theorem loop_inv {g : GF} {body : SF} {xs : List D} (I : Nat → Sl → Sto → Prop) (step : ∀ i x δ s, xs[i]? = some x → I i δ s → ∃ δ2 s2, turn g body x δ s = .nx δ2 s2 ∧ I (i + 1) δ2 s2) {δ : Sl} {s : Sto} (h : I 0 δ s) :
    ∃ δ' s', loopS g body xs δ s = .nx δ' s' ∧ I xs.length δ' s' := by
  have main : ∀ (ys : List D) (i : Nat) (δ : Sl) (s : Sto), i + ys.length = xs.length → (∀ j : Nat, ys[j]? = xs[i + j]?) → I i δ s → ∃ δ' s', loopS g body ys δ s = .nx δ' s' ∧ I xs.length δ' s' := by
    intro ys
    induction ys with
    | nil =>
      intro i δ s hl _ h
      have : i = xs.length := by simpa using hl
      subst this
      exact ⟨δ, s, rfl, h⟩
    | cons y ys ih =>
      intro i δ s hl hg h
      have h0 := hg 0
      simp at h0
      obtain ⟨δ2, s2, e2, h2⟩ := step i y δ s h0.symm h
      obtain ⟨δ', s', e3, h3⟩ := ih (i + 1) δ2 s2 (by simp at hl; omega) (fun j => by have := hg (j + 1); simp at this; rw [this]; congr 1; omega) h2
      exact ⟨δ', s', by rw [loopS_cons e2]; exact e3, h3⟩
  exact main xs 0 δ s (by simp) (fun j => by simp) h
theorem upI_get {lo : Int} {n i : Nat} {x : D} (h : (upI lo n)[i]? = some x) : x = .int (lo + (i : Int)) ∧ i < n := by
  unfold upI at h
  rw [List.getElem?_map] at h
  obtain ⟨j, h1, rfl⟩ := Option.map_eq_some_iff.mp h
  have hi : i < n := by have := (List.getElem?_eq_some_iff.mp h1).1; simpa using this
  rw [List.getElem?_range hi] at h1
  cases h1
  exact ⟨rfl, hi⟩
@[simp] theorem upI_len {lo : Int} {n : Nat} : (upI lo n).length = n := by simp [upI]
theorem loopC_pure {g : GF} {t : BF} {e : EF} {δ : Sl} {s : Sto} (p : D → Bool) (v : D → D) : ∀ (xs acc : List D), (∀ x ∈ xs, ∃ δ1, g x δ s = .val δ1 s ∧ t δ1 s = .val (p x) s ∧ (p x = true → e δ1 s = .val (v x) s ∧ flat (v x) = true)) → acc.length + xs.length ≤ 16000000 →
    loopC g t e δ xs acc s = .val (acc ++ (xs.filter p).map v) s
  | [], acc, _, _ => by simp [loopC]
  | x :: xs, acc, h, hl => by
    obtain ⟨δ1, h1, h2, h3⟩ := h x (by simp)
    have ih := fun acc' hl' => loopC_pure p v xs acc' (fun y hy => h y (by simp [hy])) hl'
    simp only [List.length_cons] at hl
    rw [loopC, h1, noX_val, O.bind_val, h2, quiet_val, O.bind_val]
    cases hp : p x with
    | false =>
      rw [if_neg (by decide), ih _ (by omega)]
      simp [hp]
    | true =>
      obtain ⟨h4, h5⟩ := h3 hp
      rw [if_pos rfl, h4, quiet_val, O.bind_val, if_pos ⟨h5, by omega⟩, ih _ (by simp; omega)]
      simp [hp]
/-! ### rows -/
def Row (r : List Nat) : Prop := ∀ c ∈ r, c = 119 ∨ c = 102
theorem sm_of {i : Int} (h : -(2 ^ 60) ≤ i) (h2 : i < 2 ^ 60) : sm i = true := by
  simp only [sm, Bool.and_eq_true, decide_eq_true_eq]; exact ⟨h, h2⟩
theorem row_spec {t : Nat} {s : Sto} {n : Int} (h : Tap t s) (h0 : 0 ≤ n) (h1 : n ≤ 1000) :
    ∃ r s', m_law_row [.ob t, .int n] s = .val (.str r) s' ∧ Dr t s s' ∧ (r.length : Int) = n ∧ Row r := by
  obtain ⟨v, s1, e1, d1, v0, v3⟩ := draw h (show (1 : Int) ≤ 3 by decide) (by decide)
  obtain ⟨m, hm, m0, m5⟩ : ∃ m : Int, atI ([.int 1, .int 2, .int 5] : List D) v = some (.int m) ∧ 1 ≤ m ∧ m ≤ 5 := by
    rcases (by omega : v = 0 ∨ v = 1 ∨ v = 2) with rfl | rfl | rfl
    · exact ⟨1, by simp, by decide, by decide⟩
    · exact ⟨2, by simp, by decide, by decide⟩
    · exact ⟨5, by simp, by decide, by decide⟩
  have T1 := h.dr d1
  obtain ⟨δ', s', e2, f, o, rfl, d2, hl, hr⟩ := loop_inv (g := nameG 4) (body := l_law_row_1) (xs := upI 0 n.toNat)
    (fun i δ s' => ∃ f o, δ = [some (.ob t), some (.int n), some (.int m), some (.str f), o] ∧ Dr t s1 s' ∧ f.length = i ∧ Row f)
    (fun i x δ s' hx hI => by
      obtain ⟨f, o, rfl, d, hl, hr⟩ := hI
      obtain ⟨rfl, hi⟩ := upI_get hx
      obtain ⟨u, s2, e, d', u0, u1⟩ := draw (many := m + 1) (T1.dr d) (by omega) (by omega)
      have hb : f.length + 1 ≤ 16000000 := by omega
      by_cases hu : u = 0
      · refine ⟨_, s2, ?_, f ++ [102], some (.int (0 + (i : Int))), rfl, d.trans d', by simp [hl], fun c hc => by rcases List.mem_append.mp hc with q | q; exact hr c q; simp at q; exact .inr q⟩
        simp [turn, l_law_row_1, e, hu, addG_str, hb, ixG_str]
      · refine ⟨_, s2, ?_, f ++ [119], some (.int (0 + (i : Int))), rfl, d.trans d', by simp [hl], fun c hc => by rcases List.mem_append.mp hc with q | q; exact hr c q; simp at q; exact .inl q⟩
        simp [turn, l_law_row_1, e, hu, addG_str, hb, ixG_str])
    (δ := [some (.ob t), some (.int n), some (.int m), some (.str []), none]) (s := s1) ⟨[], none, rfl, T1.refl, rfl, fun c hc => by simp at hc⟩
  refine ⟨f, s', ?_, d1.trans d2, by simp at hl; omega, hr⟩
  simp [m_law_row, fnF, b_law_row, N_law_row, startD, e1, ixG_lst hm, sm_of (show -(2 ^ 60) ≤ n by omega) (by omega), e2, (d1.trans d2).take]
end Fl
set_option Elab.async false
set_option linter.all false
set_option maxRecDepth 100000
set_option maxHeartbeats 1000000
namespace Fl
open L2
/-! ### isinstance -/
def isTab (t T : String) : Bool := t == T || (t == "bool" && T == "int")
theorem kitB_tab : (["NoneType", "bool", "int", "str", "tuple", "list"].all fun t => ["bool", "int", "str", "tuple", "list"].all fun T => decide (kitB t T = some (isTab t T))) = true := by decide +kernel
theorem kitB_of {t T : String} (h1 : t ∈ ["NoneType", "bool", "int", "str", "tuple", "list"]) (h2 : T ∈ ["bool", "int", "str", "tuple", "list"]) : kitB t T = some (isTab t T) :=
  of_decide_eq_true (List.all_eq_true.mp (List.all_eq_true.mp kitB_tab t h1) T h2)
@[simp] theorem kitB_non_bool : kitB "NoneType" "bool" = some false := kitB_of (by simp) (by simp)
@[simp] theorem kitB_non_int : kitB "NoneType" "int" = some false := kitB_of (by simp) (by simp)
@[simp] theorem kitB_non_str : kitB "NoneType" "str" = some false := kitB_of (by simp) (by simp)
@[simp] theorem kitB_non_tup : kitB "NoneType" "tuple" = some false := kitB_of (by simp) (by simp)
@[simp] theorem kitB_non_lst : kitB "NoneType" "list" = some false := kitB_of (by simp) (by simp)
@[simp] theorem kitB_bool_bool : kitB "bool" "bool" = some true := kitB_of (by simp) (by simp)
@[simp] theorem kitB_bool_int : kitB "bool" "int" = some true := kitB_of (by simp) (by simp)
@[simp] theorem kitB_bool_str : kitB "bool" "str" = some false := kitB_of (by simp) (by simp)
@[simp] theorem kitB_bool_tup : kitB "bool" "tuple" = some false := kitB_of (by simp) (by simp)
@[simp] theorem kitB_bool_lst : kitB "bool" "list" = some false := kitB_of (by simp) (by simp)
@[simp] theorem kitB_int_bool : kitB "int" "bool" = some false := kitB_of (by simp) (by simp)
@[simp] theorem kitB_int_int : kitB "int" "int" = some true := kitB_of (by simp) (by simp)
@[simp] theorem kitB_int_str : kitB "int" "str" = some false := kitB_of (by simp) (by simp)
@[simp] theorem kitB_int_tup : kitB "int" "tuple" = some false := kitB_of (by simp) (by simp)
@[simp] theorem kitB_int_lst : kitB "int" "list" = some false := kitB_of (by simp) (by simp)
@[simp] theorem kitB_str_bool : kitB "str" "bool" = some false := kitB_of (by simp) (by simp)
@[simp] theorem kitB_str_int : kitB "str" "int" = some false := kitB_of (by simp) (by simp)
@[simp] theorem kitB_str_str : kitB "str" "str" = some true := kitB_of (by simp) (by simp)
@[simp] theorem kitB_str_tup : kitB "str" "tuple" = some false := kitB_of (by simp) (by simp)
@[simp] theorem kitB_str_lst : kitB "str" "list" = some false := kitB_of (by simp) (by simp)
@[simp] theorem kitB_tup_bool : kitB "tuple" "bool" = some false := kitB_of (by simp) (by simp)
@[simp] theorem kitB_tup_int : kitB "tuple" "int" = some false := kitB_of (by simp) (by simp)
@[simp] theorem kitB_tup_str : kitB "tuple" "str" = some false := kitB_of (by simp) (by simp)
@[simp] theorem kitB_tup_tup : kitB "tuple" "tuple" = some true := kitB_of (by simp) (by simp)
@[simp] theorem kitB_tup_lst : kitB "tuple" "list" = some false := kitB_of (by simp) (by simp)
@[simp] theorem kitB_lst_bool : kitB "list" "bool" = some false := kitB_of (by simp) (by simp)
@[simp] theorem kitB_lst_int : kitB "list" "int" = some false := kitB_of (by simp) (by simp)
@[simp] theorem kitB_lst_str : kitB "list" "str" = some false := kitB_of (by simp) (by simp)
@[simp] theorem kitB_lst_tup : kitB "list" "tuple" = some false := kitB_of (by simp) (by simp)
@[simp] theorem kitB_lst_lst : kitB "list" "list" = some true := kitB_of (by simp) (by simp)
@[simp] theorem isiG_one {s : Sto} {x : D} {T : String} : isiG s [x, .ty T] = (match isT (view s x) T with
    | some b => .val (.bl b) s
    | none => .stuck) := rfl
@[simp] theorem isiG_two {s : Sto} {x : D} {T U : String} : isiG s [x, .tup [.ty T, .ty U]] = (match isT (view s x) T with
    | some true => .val (.bl true) s
    | some false => (match isT (view s x) U with
      | some b => .val (.bl b) s
      | none => .stuck)
    | none => .stuck) := rfl
/-! ### like -/
/-- what == and isinstance are asked of -/
def plain : D → Bool
  | .ty _ => false
  | .ob _ => false
  | .scr _ => false
  | _ => true
mutual
def plainD : D → Bool
  | .tup ds => plainDs ds
  | .lst ds => plainDs ds
  | .ty _ => false
  | .ob _ => false
  | .scr _ => false
  | _ => true
def plainDs : List D → Bool
  | [] => true
  | d :: ds => plainD d && plainDs ds
end
mutual
theorem deq_refl : ∀ d : D, plainD d = true → deq d d = true
  | .non, _ => by simp
  | .bl _, _ => by simp
  | .int _, _ => by simp
  | .str _, _ => by simp
  | .tup ds, h => by rw [deq_tup]; exact deqs_refl ds (by rw [plainD] at h; exact h)
  | .lst ds, h => by rw [deq_lst]; exact deqs_refl ds (by rw [plainD] at h; exact h)
  | .scr _, h => by rw [plainD] at h; cases h
  | .ty _, h => by rw [plainD] at h; cases h
  | .ob _, h => by rw [plainD] at h; cases h
theorem deqs_refl : ∀ ds : List D, plainDs ds = true → deqs ds ds = true
  | [], _ => by simp
  | d :: ds, h => by
    rw [plainDs, Bool.and_eq_true] at h
    rw [deqs_cons, deq_refl d h.1, deqs_refl ds h.2]; rfl
end
mutual
/-- no bool within: == is equality -/
def noBl : D → Bool
  | .tup ds => noBls ds
  | .lst ds => noBls ds
  | .int _ => true
  | .str _ => true
  | .non => true
  | _ => false
def noBls : List D → Bool
  | [] => true
  | d :: ds => noBl d && noBls ds
end
mutual
theorem deq_iff : ∀ x y : D, noBl x = true → noBl y = true → (deq x y = true ↔ x = y)
  | .non, y, _, hy => by cases y <;> simp_all [deq, toPy, PySem.PyData.eqv, noBl]
  | .int i, y, _, hy => by cases y <;> simp_all [deq, toPy, PySem.PyData.eqv, noBl]
  | .str a, y, _, hy => by
    cases y with
    | str b => rw [deq_str]; simp
    | _ => simp_all [deq, toPy, PySem.PyData.eqv, noBl]
  | .tup xs, y, hx, hy => by
    cases y with
    | tup ys =>
      rw [noBl] at hx hy
      rw [deq_tup, deqs_iff xs ys hx hy]; simp
    | _ => simp_all [deq, toPy, PySem.PyData.eqv, noBl]
  | .lst xs, y, hx, hy => by
    cases y with
    | lst ys =>
      rw [noBl] at hx hy
      rw [deq_lst, deqs_iff xs ys hx hy]; simp
    | _ => simp_all [deq, toPy, PySem.PyData.eqv, noBl]
  | .bl _, _, h, _ => by rw [noBl] at h <;> first | cases h | (intros; contradiction)
  | .scr _, _, h, _ => by rw [noBl] at h <;> first | cases h | (intros; contradiction)
  | .ty _, _, h, _ => by rw [noBl] at h <;> first | cases h | (intros; contradiction)
  | .ob _, _, h, _ => by rw [noBl] at h <;> first | cases h | (intros; contradiction)
theorem deqs_iff : ∀ xs ys : List D, noBls xs = true → noBls ys = true → (deqs xs ys = true ↔ xs = ys)
  | [], [], _, _ => by simp
  | [], y :: ys, _, _ => by simp
  | x :: xs, [], _, _ => by simp
  | x :: xs, y :: ys, hx, hy => by
    rw [noBls, Bool.and_eq_true] at hx hy
    rw [deqs_cons, Bool.and_eq_true, deq_iff x y hx.1 hy.1, deqs_iff xs ys hx.2 hy.2]; simp
end
theorem dep_le_of_mem {d : D} {ds : List D} (h : d ∈ ds) : dep d ≤ deps ds := by
  induction ds with
  | nil => simp at h
  | cons x xs ih =>
    rw [deps_cons]
    rcases List.mem_cons.mp h with rfl | h
    · exact Nat.le_max_left _ _
    · exact Nat.le_trans (ih h) (Nat.le_max_right _ _)
theorem plain_of_mem {d : D} {ds : List D} (h : d ∈ ds) (p : plainDs ds = true) : plainD d = true := by
  induction ds with
  | nil => simp at h
  | cons x xs ih =>
    rw [plainDs, Bool.and_eq_true] at p
    rcases List.mem_cons.mp h with rfl | h
    · exact p.1
    · exact ih h p.2
theorem plain_flat {d : D} (h : plainD d = true) : flat d = true := by cases d <;> first | rfl | (rw [plainD] at h; cases h)
mutual
/-- data that _law_like walks through -/
def okD : D → Bool
  | .tup ds => decide (ds.length ≤ 1000000) && okDs ds
  | .lst ds => decide (ds.length ≤ 1000000) && okDs ds
  | .ty _ => false
  | .ob _ => false
  | .scr _ => false
  | _ => true
def okDs : List D → Bool
  | [] => true
  | d :: ds => okD d && okDs ds
end
theorem okDs_mem {d : D} {ds : List D} (h : d ∈ ds) (p : okDs ds = true) : okD d = true := by
  induction ds with
  | nil => simp at h
  | cons x xs ih =>
    rw [okDs, Bool.and_eq_true] at p
    rcases List.mem_cons.mp h with rfl | h
    · exact p.1
    · exact ih h p.2
mutual
theorem okD_plain : ∀ d : D, okD d = true → plainD d = true
  | .tup ds, h => by rw [okD, Bool.and_eq_true] at h; rw [plainD]; exact okDs_plain ds h.2
  | .lst ds, h => by rw [okD, Bool.and_eq_true] at h; rw [plainD]; exact okDs_plain ds h.2
  | .non, _ => by simp [plainD]
  | .bl _, _ => by simp [plainD]
  | .int _, _ => by simp [plainD]
  | .str _, _ => by simp [plainD]
  | .ty _, h => by rw [okD] at h; cases h
  | .ob _, h => by rw [okD] at h; cases h
  | .scr _, h => by rw [okD] at h; cases h
theorem okDs_plain : ∀ ds : List D, okDs ds = true → plainDs ds = true
  | [], _ => by simp [plainDs]
  | d :: ds, h => by
    rw [okDs, Bool.and_eq_true] at h
    rw [plainDs, okD_plain d h.1, okDs_plain ds h.2]; rfl
end
theorem view_flat {s : Sto} {d : D} (h : flat d = true) : view s d = d := by cases d <;> first | rfl | cases h
theorem ixG_view {s : Sto} {x : D} {i : Int} : ixG s x (.int i) = (match view s x with
  | .lst ds => (match atI ds i with
    | some d => .val d s
    | none => .stuck)
  | .tup ds => (match atI ds i with
    | some d => .val d s
    | none => .stuck)
  | .str cs => if cs.length ≤ 16000000 then (match atI cs i with
      | some c => .val (.str [c]) s
      | none => .stuck)
    else .stuck
  | _ => .stuck) := by
  cases x with
  | ob k =>
    unfold ixG
    cases view s (.ob k) <;> first | rfl | (simp only; split <;> rfl)
  | _ => first | rfl | (simp only [ixG, view]; split <;> rfl)
theorem lenG_view {s : Sto} {x : D} : lenG s [x] = (match view s x with
    | .lst ds => .val (.int ds.length) s
    | .tup ds => .val (.int ds.length) s
    | .scr ds => .val (.int ds.length) s
    | .str cs => if cs.length ≤ 16000000 then .val (.int cs.length) s else .stuck
    | _ => .stuck) := rfl
theorem like_seq {k : Nat} {ds : List D} {x y : D} {s : Sto} (hl : ds.length ≤ 1000000) (hx : view s x = .lst ds ∨ view s x = .tup ds) (hy : view s y = view s x)
    (ih : ∀ d ∈ ds, flat d = true ∧ m_law_like_n k [d, d] s = .val (.bl true) s) : m_law_like_n (k + 1) [x, y] s = .val (.bl true) s := by
  have ix : ∀ i : Nat, (h : i < ds.length) → ixG s x (.int (i : Int)) = .val ds[i] s ∧ ixG s y (.int (i : Int)) = .val ds[i] s := by
    intro i h
    have e : atI ds (i : Int) = some ds[i] := atI_nat (List.getElem?_eq_getElem h)
    rcases hx with hx | hx <;> (rw [ixG_view, ixG_view, hy, hx]; simp only [e]; exact ⟨trivial, trivial⟩)
  have comp : loopC (nameG 2) (notT (tst (callF 2 (m_law_like_n k) (con (bin ixG (varF 0) (varF 2)) (con (bin ixG (varF 1) (varF 2)) nil))))) (varF 2) [some x, some y, none] (upI 0 ds.length) [] s = .val [] s := by
    rw [loopC_pure (p := fun _ => false) (v := fun d => d)]
    · simp
    · intro z hz
      obtain ⟨i, hi⟩ := List.getElem?_of_mem hz
      obtain ⟨rfl, hi2⟩ := upI_get hi
      obtain ⟨h1, h2⟩ := ix i hi2
      refine ⟨[some x, some y, some (.int (0 + (i : Int)))], rfl, ?_, fun h => by cases h⟩
      have h3 := (ih ds[i] (List.getElem_mem hi2)).2
      simp [h1, h2, h3]
    · simp; omega
  have hs : sm ((ds.length : Nat) : Int) = true := sm_of (by omega) (by omega)
  have hlx : lenG s [x] = .val (.int ds.length) s := by rcases hx with hx | hx <;> simp only [lenG, hx]
  have hly : lenG s [y] = .val (.int ds.length) s := by rcases hx with hx | hx <;> simp only [lenG, hx, hy]
  rcases hx with hx | hx
  · simp -implicitDefEqProofs [m_law_like_n, fnF, b_law_like, N_law_like, startD, hx, hy, isT, tyD, hlx, hly, hs, wipeD, comp]
  · simp -implicitDefEqProofs [m_law_like_n, fnF, b_law_like, N_law_like, startD, hx, hy, isT, tyD, hlx, hly, hs, wipeD, comp]
theorem like_same : ∀ (k : Nat) (d x y : D) (s : Sto), okD d = true → dep d < k → k ≤ 50 → view s x = d → view s y = d → m_law_like_n k [x, y] s = .val (.bl true) s
  | 0, _, _, _, _, _, h, _, _, _ => by omega
  | k + 1, d, x, y, s, hp, hd, h6, hx, hy => by
    have seq : ∀ ds : List D, ds.length ≤ 1000000 → okDs ds = true → deps ds < k → ∀ e ∈ ds, flat e = true ∧ m_law_like_n k [e, e] s = .val (.bl true) s := fun ds hl h1 h2 e he => by
      have h3 := okDs_mem he h1
      have h4 := plain_flat (okD_plain e h3)
      exact ⟨h4, like_same k e e e s h3 (Nat.lt_of_le_of_lt (dep_le_of_mem he) h2) (by omega) (view_flat h4) (view_flat h4)⟩
    have dq := deq_refl d (okD_plain d hp)
    cases d with
    | lst ds =>
      rw [okD, Bool.and_eq_true, decide_eq_true_eq] at hp
      rw [dep_lst] at hd
      exact like_seq hp.1 (.inl hx) (hy.trans hx.symm) (seq ds hp.1 hp.2 (by omega))
    | tup ds =>
      rw [okD, Bool.and_eq_true, decide_eq_true_eq] at hp
      rw [dep_tup] at hd
      exact like_seq hp.1 (.inr hx) (hy.trans hx.symm) (seq ds hp.1 hp.2 (by omega))
    | non => simp -implicitDefEqProofs [m_law_like_n, fnF, b_law_like, N_law_like, startD, hx, hy, isT, tyD]
    | bl b => simp -implicitDefEqProofs [m_law_like_n, fnF, b_law_like, N_law_like, startD, hx, hy, isT, tyD]
    | int i => simp -implicitDefEqProofs [m_law_like_n, fnF, b_law_like, N_law_like, startD, hx, hy, isT, tyD]
    | str a => simp -implicitDefEqProofs [m_law_like_n, fnF, b_law_like, N_law_like, startD, hx, hy, isT, tyD]
    | ty _ => rw [okD] at hp; cases hp
    | ob _ => rw [okD] at hp; cases hp
    | scr _ => rw [okD] at hp; cases hp
end Fl
set_option Elab.async false
set_option linter.all false
set_option maxRecDepth 100000
set_option maxHeartbeats 1000000
namespace Fl
open L2
/-! ### loops that may end early -/
theorem loop_ret {g : GF} {body : SF} {xs : List D} (I : Nat → Sl → Sto → Prop) (R : D → Sto → Prop) (step : ∀ i x δ s, xs[i]? = some x → I i δ s → (∃ δ2 s2, turn g body x δ s = .nx δ2 s2 ∧ I (i + 1) δ2 s2) ∨ ∃ d s2, turn g body x δ s = .rt d s2 ∧ R d s2) {δ : Sl} {s : Sto} (h : I 0 δ s) :
    (∃ δ' s', loopS g body xs δ s = .nx δ' s' ∧ I xs.length δ' s') ∨ ∃ d s', loopS g body xs δ s = .rt d s' ∧ R d s' := by
  have main : ∀ (ys : List D) (i : Nat) (δ : Sl) (s : Sto), i + ys.length = xs.length → (∀ j : Nat, ys[j]? = xs[i + j]?) → I i δ s → (∃ δ' s', loopS g body ys δ s = .nx δ' s' ∧ I xs.length δ' s') ∨ ∃ d s', loopS g body ys δ s = .rt d s' ∧ R d s' := by
    intro ys
    induction ys with
    | nil =>
      intro i δ s hl _ h
      have : i = xs.length := by simpa using hl
      subst this
      exact .inl ⟨δ, s, rfl, h⟩
    | cons y ys ih =>
      intro i δ s hl hg h
      have h0 := hg 0
      simp at h0
      rcases step i y δ s h0.symm h with ⟨δ2, s2, e2, h2⟩ | ⟨d, s2, e2, h2⟩
      · rw [loopS_cons e2]
        exact ih (i + 1) δ2 s2 (by simp at hl; omega) (fun j => by have := hg (j + 1); simp at this; rw [this]; congr 1; omega) h2
      · exact .inr ⟨d, s2, loopS_rt e2, h2⟩
  exact main xs 0 δ s (by simp) (fun j => by simp) h
/-! ### due days -/
/-- day i works -/
def wk (r : List Nat) (i : Nat) : Bool := r[i]? == some 119
/-- the working days among the n days from lo -/
def cw (r : List Nat) (lo n : Nat) : Nat := ((List.range n).filter fun i => wk r (lo + i)).length
def wds (r : List Nat) (lo n : Nat) : List Nat := ((List.range n).filter fun i => wk r (lo + i)).map (lo + ·)
def dueR (r : List Nat) (lo c : Nat) : Nat := (wds r lo (r.length - lo))[c]?.getD r.length
theorem cw_succ {r : List Nat} {lo n : Nat} : cw r lo (n + 1) = cw r lo n + if wk r (lo + n) = true then 1 else 0 := by
  unfold cw
  rw [List.range_succ, List.filter_append, List.length_append]
  by_cases h : wk r (lo + n) = true <;> simp [h]
theorem range_split {n i : Nat} (h : i < n) : List.range n = List.range i ++ i :: (List.range (n - i - 1)).map (i + 1 + ·) := by
  obtain ⟨k, rfl⟩ : ∃ k, n = i + (k + 1) := ⟨n - i - 1, by omega⟩
  rw [show i + (k + 1) - i - 1 = k by omega, List.range_add, List.range_succ_eq_map]
  simp [Function.comp_def]; intro a _; omega
theorem wds_len {r : List Nat} {lo n : Nat} : (wds r lo n).length = cw r lo n := by simp [wds, cw]
theorem wds_at {r : List Nat} {lo n i : Nat} (h : i < n) (hw : wk r (lo + i) = true) : (wds r lo n)[cw r lo i]? = some (lo + i) := by
  unfold wds
  rw [range_split h, List.filter_append, List.map_append, List.getElem?_append_right (by simp [cw])]
  simp [cw, hw]
theorem dueR_at {r : List Nat} {lo i c : Nat} (h : lo + i < r.length) (hw : wk r (lo + i) = true) (hc : cw r lo i = c) : dueR r lo c = lo + i := by
  subst hc
  rw [dueR, wds_at (by omega) hw]; rfl
theorem dueR_none {r : List Nat} {lo c : Nat} (hc : cw r lo (r.length - lo) ≤ c) : dueR r lo c = r.length := by
  rw [dueR, List.getElem?_eq_none (by rw [wds_len]; exact hc)]; rfl
theorem row_at {r : List Nat} (hr : Row r) {i : Nat} (h : i < r.length) : ∃ c, r[i]? = some c ∧ (c == 119) = wk r i := by
  refine ⟨r[i], List.getElem?_eq_getElem h, ?_⟩
  rw [wk, List.getElem?_eq_getElem h]; simp
theorem due_day_spec {r : List Nat} {lo c : Nat} {s : Sto} (hl : r.length ≤ 1000) (hr : Row r) (hlo : lo ≤ 1000) :
    m_due_day [.str r, .int ((lo : Int) - 1), .int ((c : Int) + 1)] s = .val (.int (dueR r lo c)) s := by
  have hL : lenG s [.str r] = .val (.int r.length) s := lenG_str (by omega)
  have ho : outF s.length (.rt (.int (dueR r lo c)) s) = .val (.int (dueR r lo c)) s := by simp
  have base : m_due_day [.str r, .int ((lo : Int) - 1), .int ((c : Int) + 1)] s = outF s.length ((loopS (nameG 4) l_due_day_1 (upI lo (r.length - lo)) [some (.str r), some (.int ((lo : Int) - 1)), some (.int ((c : Int) + 1)), some (.int ((c : Int) + 1)), none] s).then (retS (fnB lenG (con (varF 0) nil)))) := by
    have e : ((r.length : Int) - (lo : Int)).toNat = r.length - lo := by omega
    have e1 : sm (lo : Int) = true := sm_of (by omega) (by omega)
    have e2 : sm (r.length : Int) = true := sm_of (by omega) (by omega)
    have e3 : (lo : Int) - 1 + 1 = lo := by omega
    simp -implicitDefEqProofs [m_due_day, fnF, b_due_day, N_due_day, startD, hL, e, e1, e2, e3]
  rw [base]
  rcases loop_ret (g := nameG 4) (body := l_due_day_1) (xs := upI lo (r.length - lo))
    (fun i δ s' => s = s' ∧ ∃ left o, δ = [some (.str r), some (.int ((lo : Int) - 1)), some (.int ((c : Int) + 1)), some (.int left), o] ∧ 1 ≤ left ∧ (cw r lo i : Int) + left = c + 1)
    (fun d s' => s = s' ∧ d = .int (dueR r lo c))
    (fun i x δ s' hx hI => by
      obtain ⟨rfl, left, o, rfl, h1, h2⟩ := hI
      obtain ⟨rfl, hi⟩ := upI_get hx
      obtain ⟨ch, hc1, hc2⟩ := row_at hr (show lo + i < r.length by omega)
      have hix : ixG s (.str r) (.int ((lo : Int) + (i : Int))) = .val (.str [ch]) s := ixG_str (by omega) (by rw [← Int.natCast_add]; exact atI_nat hc1)
      have hs := @cw_succ r lo i
      by_cases hw : wk r (lo + i) = true
      · rw [hw] at hc2
        have hch := eq_of_beq hc2
        rw [if_pos hw] at hs
        by_cases hz : left - 1 = 0
        · exact .inr ⟨.int ((lo : Int) + (i : Int)), s, by simp -implicitDefEqProofs [turn, l_due_day_1, hix, hch, hz], rfl, by rw [dueR_at (by omega) hw (by omega)]; simp⟩
        · refine .inl ⟨_, s, ?_, rfl, left - 1, some (.int ((lo : Int) + (i : Int))), rfl, by omega, by rw [hs]; omega⟩
          simp -implicitDefEqProofs [turn, l_due_day_1, hix, hch, hz]
      · have hch : (ch == 119) = false := by rw [hc2]; simpa using hw
        have hch' : ¬ ch = 119 := by simpa using hch
        rw [if_neg hw] at hs
        have hz : ¬ left = 0 := by omega
        refine .inl ⟨_, s, ?_, rfl, left, some (.int ((lo : Int) + (i : Int))), rfl, by omega, by rw [hs]; omega⟩
        simp -implicitDefEqProofs [turn, l_due_day_1, hix, hch', hz])
    (δ := [some (.str r), some (.int ((lo : Int) - 1)), some (.int ((c : Int) + 1)), some (.int ((c : Int) + 1)), none]) (s := s) ⟨rfl, _, _, rfl, by omega, by simp [cw]⟩ with ⟨δ', s', e, rfl, left, o, rfl, h1, h2⟩ | ⟨d, s', e, rfl, rfl⟩
  · rw [e]
    rw [upI_len] at h2
    have := @dueR_none r lo c (by omega)
    rw [this] at ho
    rw [this]
    simp -implicitDefEqProofs [hL]
  · rw [e]; exact ho
theorem law_due_spec {r : List Nat} {lo c : Nat} {s : Sto} (hl : r.length ≤ 1000) (hr : Row r) (hlo : lo ≤ 1000) :
    m_law_due [.str r, .int ((lo : Int) - 1), .int ((c : Int) + 1)] s = .val (.int (dueR r lo c)) s := by
  have hL : lenG s [.str r] = .val (.int r.length) s := lenG_str (by omega)
  have e : ((r.length : Int) - (lo : Int)).toNat = r.length - lo := by omega
  have e1 : sm (lo : Int) = true := sm_of (by omega) (by omega)
  have e2 : sm (r.length : Int) = true := sm_of (by omega) (by omega)
  have e3 : (lo : Int) - 1 + 1 = lo := by omega
  have e4 : (c : Int) + 1 - 1 = c := by omega
  have comp : ∀ o, loopC (nameG 4) (tst (bin eqG (bin ixG (varF 0) (varF 4)) (cF (.str [119])))) (varF 4) [some (.str r), some (.int ((lo : Int) - 1)), some (.int ((c : Int) + 1)), none, o] (upI lo (r.length - lo)) [] s = .val ((wds r lo (r.length - lo)).map fun (i : Nat) => .int i) s := by
    intro o
    rw [loopC_pure (p := fun d => match d with | .int i => wk r i.toNat | _ => false) (v := fun d => d)]
    · have e6 : ∀ x : Nat, ((lo : Int) + (x : Int)).toNat = lo + x := fun x => by omega
      simp [upI, wds, List.filter_map, Function.comp_def, e6]
    · intro z hz
      obtain ⟨i, hi⟩ := List.getElem?_of_mem hz
      obtain ⟨rfl, hi2⟩ := upI_get hi
      obtain ⟨ch, hc1, hc2⟩ := row_at hr (show lo + i < r.length by omega)
      have hix : ixG s (.str r) (.int ((lo : Int) + (i : Int))) = .val (.str [ch]) s := ixG_str (by omega) (by rw [← Int.natCast_add]; exact atI_nat hc1)
      have e5 : ((lo : Int) + (i : Int)).toNat = lo + i := by omega
      refine ⟨_, rfl, ?_, fun _ => ⟨rfl, rfl⟩⟩
      simp -implicitDefEqProofs [hix, e5, ← hc2]
    · simp; omega
  have hb : (wds r lo (r.length - lo)).length ≤ r.length := by rw [wds_len, cw]; exact Nat.le_trans (List.length_filter_le _ _) (by simp)
  by_cases h : c < (wds r lo (r.length - lo)).length
  · have h1 : (c : Int) + 1 ≤ (wds r lo (r.length - lo)).length := by omega
    have h2 := List.getElem?_eq_getElem h
    have h3 : dueR r lo c = (wds r lo (r.length - lo))[c] := by rw [dueR, h2]; rfl
    have h4 : ixG s (.lst ((wds r lo (r.length - lo)).map fun (i : Nat) => .int i)) (.int c) = .val (.int (wds r lo (r.length - lo))[c]) s := ixG_lst (atI_nat (by rw [List.getElem?_map, h2]; rfl))
    simp -implicitDefEqProofs [m_law_due, fnF, b_law_due, N_law_due, startD, hL, e, e1, e2, e3, e4, comp, wipeD, h1, h4, h3]
  · have h1 : ¬ (c : Int) + 1 ≤ (wds r lo (r.length - lo)).length := by omega
    have h3 : dueR r lo c = r.length := by rw [dueR, List.getElem?_eq_none (by omega)]; rfl
    simp -implicitDefEqProofs [m_law_due, fnF, b_law_due, N_law_due, startD, hL, e, e1, e2, e3, e4, comp, wipeD, h1, h3]
/-! ### keeps -/
def kOn : List Nat := [111, 110]
def kBy : List Nat := [98, 121]
def kFrom : List Nat := [102, 114, 111, 109]
def keepsR (k : List Nat) (due end_ : Int) : Bool := if k = kBy then decide (due ≤ end_) else if k = kFrom then decide (end_ ≤ due) else due == end_
theorem keeps_spec {r : List Nat} {k : List Nat} {lo c : Nat} {en : Int} {s : Sto} (hl : r.length ≤ 1000) (hr : Row r) (hlo : lo ≤ 1000) :
    m_keeps [.str r, .tup [.str k, .int ((lo : Int) - 1), .int ((c : Int) + 1), .int en]] s = .val (.bl (keepsR k (dueR r lo c) en)) s := by
  have h := @due_day_spec r lo c s hl hr hlo
  by_cases h1 : k = kBy
  · subst h1
    simp -implicitDefEqProofs [m_keeps, fnF, b_keeps, N_keeps, startD, h, keepsR, kBy]
  · by_cases h2 : k = kFrom
    · subst h2
      simp -implicitDefEqProofs [m_keeps, fnF, b_keeps, N_keeps, startD, h, keepsR, kBy, kFrom]
    · have h1' : ¬ k = [98, 121] := h1
      have h2' : ¬ k = [102, 114, 111, 109] := h2
      simp -implicitDefEqProofs [m_keeps, fnF, b_keeps, N_keeps, startD, h, keepsR, kBy, kFrom, h1', h2']
theorem l_k02_1_spec {t : Nat} {s : Sto} {r : List Nat} {a b c d e f g h i j k : Option D} (hT : Tap t s) (hl : r.length ≤ 1000) (h1 : 1 ≤ r.length) (hr : Row r) :
    ∃ δ2 s2, l_law_k02_1 [a, some (.ob t), b, some (.str r), some (.int r.length), c, d, e, f, g, h, i] s = .nx δ2 s2 ∧ (∃ d' e' f' g' h', δ2 = [a, some (.ob t), b, some (.str r), some (.int r.length), c, d', e', f', g', h', i]) ∧ Dr t s s2 := by
  obtain ⟨v1, s1, e1, d1, u1, w1⟩ := draw (many := r.length) hT (by omega) (by omega)
  have T1 := hT.dr d1
  obtain ⟨v2, s2, e2, d2, u2, w2⟩ := draw (many := r.length) T1 (by omega) (by omega)
  have T2 := T1.dr d2
  obtain ⟨v3, s3, e3, d3, u3, w3⟩ := draw (many := (r.length : Int) - 1 - (v1 - 1)) T2 (by omega) (by omega)
  obtain ⟨lo, rfl⟩ := Int.eq_ofNat_of_zero_le u1
  obtain ⟨cn, rfl⟩ := Int.eq_ofNat_of_zero_le u2
  have hk : ∀ q : List Nat, m_keeps [.str r, .tup [.str q, .int ((lo : Int) - 1), .int (1 + (cn : Int)), .int ((lo : Int) + v3)]] s3 = .val (.bl (keepsR q (dueR r lo cn) ((lo : Int) + v3))) s3 := fun q => by
    rw [Int.add_comm 1 (cn : Int)]
    exact keeps_spec hl hr (by omega)
  have hd : m_law_due [.str r, .int ((lo : Int) - 1), .int (1 + (cn : Int))] s3 = .val (.int (dueR r lo cn)) s3 := by
    rw [Int.add_comm 1 (cn : Int)]
    exact law_due_spec hl hr (by omega)
  generalize hen : (lo : Int) + v3 = en at hk
  generalize dueR r lo cn = due at hk hd
  have hlike : m_law_like [.lst [.bl ((due : Int) == en), .bl (decide ((due : Int) ≤ en)), .bl (decide (en ≤ (due : Int)))], .lst [.bl ((due : Int) == en), .bl (decide ((due : Int) ≤ en)), .bl (decide (en ≤ (due : Int)))]] s3 = .val (.bl true) s3 :=
    like_same 4 _ _ _ _ (by simp [okD, okDs]) (by simp) (by decide) rfl rfl
  have h3 : ((due : Int) == en) = (decide ((due : Int) ≤ en) && decide (en ≤ (due : Int))) := by
    by_cases q1 : (due : Int) ≤ en <;> by_cases q2 : en ≤ (due : Int) <;> simp [q1, q2] <;> omega
  have hk1 := hk kOn
  have hk2 := hk kBy
  have hk3 := hk kFrom
  rw [show keepsR kOn due en = ((due : Int) == en) from rfl] at hk1
  rw [show keepsR kBy due en = decide ((due : Int) ≤ en) from rfl] at hk2
  rw [show keepsR kFrom due en = decide (en ≤ (due : Int)) from rfl] at hk3
  unfold kOn at hk1
  unfold kBy at hk2
  unfold kFrom at hk3
  refine ⟨[a, some (.ob t), b, some (.str r), some (.int r.length), c, some (.int ((lo : Int) - 1)), some (.int (1 + (cn : Int))), some (.int en), some (.lst [.bl ((due : Int) == en), .bl (decide ((due : Int) ≤ en)), .bl (decide (en ≤ (due : Int)))]), some (.int due), i], s3, ?_, ⟨_, _, _, _, _, rfl⟩, (d1.trans d2).trans d3⟩
  simp -implicitDefEqProofs [l_law_k02_1, e1, e2, e3, hen, hk1, hk2, hk3, hd, hlike, wipeD, loopC, yes]
  by_cases q1 : (due : Int) ≤ en <;> by_cases q2 : en ≤ (due : Int) <;> simp -implicitDefEqProofs [q1, q2, h3]
theorem law_k02_true (ns : List Int) (hn : ns.length ≤ 63) : ∃ s, m_law_k02 [.scr ns] [] = .val (.bl true) s := by
  have T0 : Tap 0 [Tp.o ⟨ns, 0, 0⟩] := ⟨⟨ns, 0, 0⟩, ⟨Int.le_refl _, Int.le_refl _⟩, rfl⟩
  obtain ⟨δ', s', e2, ⟨a, b, c, d, e, f, g, h, i, j, rfl⟩, d2⟩ := loop_inv (g := nameG 2) (body := l_law_k02_2) (xs := upI 0 6)
    (fun _ δ s' => (∃ a b c d e f g h i j, δ = [some (.scr ns), some (.ob 0), a, b, c, d, e, f, g, h, i, j]) ∧ Dr 0 [Tp.o ⟨ns, 0, 0⟩] s')
    (fun n x δ s' hx hI => by
      obtain ⟨⟨a, b, c, d, e, f, g, h, i, j, rfl⟩, d0⟩ := hI
      obtain ⟨v, s1, e1, d1, u1, w1⟩ := draw (many := 31) (T0.dr d0) (by omega) (by omega)
      have T1 := (T0.dr d0).dr d1
      obtain ⟨r, s2, e2, d2, hl, hr⟩ := row_spec (n := 1 + v) T1 (by omega) (by omega)
      have T2 := T1.dr d2
      have hL : lenG s2 [.str r] = .val (.int r.length) s2 := lenG_str (by omega)
      obtain ⟨δ', s', e3, ⟨d', e', f', g', h', i', j', rfl⟩, d3⟩ := loop_inv (g := nameG 5) (body := l_law_k02_1) (xs := upI 0 12)
        (fun _ δ s' => (∃ d e f g h i j, δ = [some (.scr ns), some (.ob 0), some x, some (.str r), some (.int r.length), d, e, f, g, h, i, j]) ∧ Dr 0 s2 s')
        (fun n y δ s' hx hI => by
          obtain ⟨⟨d, e, f, g, h, i, j, rfl⟩, d0⟩ := hI
          obtain ⟨δ2, s3, e3, ⟨d', e', f', g', h', rfl⟩, d3⟩ := l_k02_1_spec (a := some (.scr ns)) (b := some x) (c := some y) (d := e) (e := f) (f := g) (g := h) (h := i) (i := j) (j := j) (k := j) (T2.dr d0) (by omega) (by omega) hr
          exact ⟨_, s3, e3, ⟨_, _, _, _, _, _, _, rfl⟩, d0.trans d3⟩)
        (δ := [some (.scr ns), some (.ob 0), some x, some (.str r), some (.int r.length), d, e, f, g, h, i, j]) (s := s2) ⟨⟨_, _, _, _, _, _, _, rfl⟩, T2.refl⟩
      refine ⟨_, s', ?_, ⟨some x, some (.str r), some (.int r.length), d', e', f', g', h', i', j', rfl⟩, ((d0.trans d1).trans d2).trans d3⟩
      simp -implicitDefEqProofs [turn, l_law_k02_2, e1, e2, hL, e3, sm_of (show -(2 ^ 60) ≤ (12 : Int) by decide) (by decide)]
      )
    (δ := [some (.scr ns), some (.ob 0), none, none, none, none, none, none, none, none, none, none]) (s := [Tp.o ⟨ns, 0, 0⟩]) ⟨⟨_, _, _, _, _, _, _, _, _, _, rfl⟩, T0.refl⟩
  have hk : ∀ k : List Nat, m_keeps [.str [102, 102], .tup [.str k, .int (-1), .int 1, .int 1]] s' = .val (.bl (keepsR k (dueR [102, 102] 0 0 : Nat) 1)) s' := fun k => keeps_spec (lo := 0) (c := 0) (by decide) (fun c hc => by simp at hc; exact .inr hc) (by decide)
  have hk1 := hk kFrom
  have hk2 := hk kBy
  rw [show keepsR kFrom (dueR [102, 102] 0 0 : Nat) 1 = true from rfl] at hk1
  rw [show keepsR kBy (dueR [102, 102] 0 0 : Nat) 1 = false from rfl] at hk2
  unfold kFrom at hk1
  unfold kBy at hk2
  unfold Tp.o at e2
  refine ⟨s'.take 0, ?_⟩
  simp -implicitDefEqProofs [m_law_k02, fnF, b_law_k02, N_law_k02, startD, e2, sm_of (show -(2 ^ 60) ≤ (6 : Int) by decide) (by decide), hk1, hk2]
end Fl
set_option Elab.async false
set_option linter.all false
set_option maxRecDepth 100000
set_option maxHeartbeats 2000000
namespace Fl
open PySem PySem.Spec PyProof.Rows L2
def top (i : Nat) : Stmt := PySem.Challenge.pw_workdaylogs_k02_promises_that_are_kept.main.body.getD i (.Pass ⟨0, 0, 0, 0⟩)
structure Tx (mg : Str → Option Value) : Prop where
  nlen : mg "len" = none
  nrange : mg "range" = none
  nlist : mg "list" = none
  ntuple : mg "tuple" = none
  nisinstance : mg "isinstance" = none
  nbool : mg "bool" = none
  nint : mg "int" = none
section
variable {P : Program} {w : World} {K : PySem.W.Frag} {mg : Str → Option Value} {base : Heap} {cl : Nat → Value}
abbrev s_due_day : Stmt := top 1
theorem sc_due_day : FnScope N_due_day ["row", "start", "count"] (defScope s_due_day) := ⟨rfl, rfl, rfl, by decide +kernel, rfl, by decide +kernel, by decide +kernel⟩
theorem bi_due_day {f : Addr} {fd : FuncData} (F : FnP K "due_day" "due_day" s_due_day f fd) : Binds K fd ["row", "start", "count"] [] := F.bindsN fun _ _ _ _ _ _ us hl => match us, hl with | [_, _, _], _ => rfl
theorem j_due_day (T : Tx mg) {f : Addr} {fd : FuncData} (F : FnP K "due_day" "due_day" s_due_day f fd)  : JAt P w K mg base cl 1 f 3 m_due_day := by
  have nd := sc_due_day.nd
  refine fn_ok (N := N_due_day) (ps := ["row", "start", "count"]) (body := b_due_day) F (bi_due_day F) sc_due_day fun cdv A outer s H E hr tk po => ?_
  exact (jss_cons (js_set (i := 3) nd (je_var 2))
      (jss_cons (js_for po rfl (ji_range2 (by rfl) T.nrange (ja_cons (je_op op_addU ok_add (je_var 1) je_int) (ja_cons (je_callB call_len ok_len (by rfl) T.nlen bb_len (ja_cons (je_var 0) ja_nil)) ja_nil))) (jg_name (i := 4) nd) (jss_cons (js_if (jt_cmp (op_eqD hr.units) ok_eq (je_ix ix_U ok_ix (je_var 0) (je_var 4) (fun _ _ => rfl)) (je_str [119]) (nomark _)) (jss_one (js_aug (i := 3) nd ip_sub je_int)) jss_nil)
      (jss_one (js_if (jt_cmp (op_eqD hr.units) ok_eq (je_var 3) je_int (nomark _)) (jss_one (js_ret (je_var 4))) jss_nil))))
      (jss_one (js_ret (je_callB call_len ok_len (by rfl) T.nlen bb_len (ja_cons (je_var 0) ja_nil))))))
abbrev s_keeps : Stmt := top 2
theorem sc_keeps : FnScope N_keeps ["row", "promise"] (defScope s_keeps) := ⟨rfl, rfl, rfl, by decide +kernel, rfl, by decide +kernel, by decide +kernel⟩
theorem bi_keeps {f : Addr} {fd : FuncData} (F : FnP K "keeps" "keeps" s_keeps f fd) : Binds K fd ["row", "promise"] [] := F.bindsN fun _ _ _ _ _ _ us hl => match us, hl with | [_, _], _ => rfl
theorem j_keeps (T : Tx mg) {f : Addr} {fd : FuncData} (F : FnP K "keeps" "keeps" s_keeps f fd) (J_due_day : JFn P w K mg base cl 1 "due_day" 3 m_due_day) : JAt P w K mg base cl 2 f 2 m_keeps := by
  have nd := sc_keeps.nd
  refine fn_ok (N := N_keeps) (ps := ["row", "promise"]) (body := b_keeps) F (bi_keeps F) sc_keeps fun cdv A outer s H E hr tk po => ?_
  exact (jss_cons (js_asg (je_var 1) (jg_tup rfl (jgs_cons (jg_name (i := 2) nd) (jgs_cons (jg_name (i := 3) nd) (jgs_cons (jg_name (i := 4) nd) (jgs_cons (jg_name (i := 5) nd) jgs_nil))))))
      (jss_cons (js_set (i := 6) nd (je_call J_due_day hr (by decide) tk (by rfl) (ja_cons (je_var 0) (ja_cons (je_var 3) (ja_cons (je_var 4) ja_nil)))))
      (jss_cons (js_if (jt_cmp (op_eqD hr.units) ok_eq (je_var 2) (je_str [98, 121]) (nomark _)) (jss_one (js_ret (je_cmp op_le ok_le (je_var 6) (je_var 5) (nomark _)))) jss_nil)
      (jss_one (js_ret (je_ite (jt_cmp (op_eqD hr.units) ok_eq (je_var 2) (je_str [102, 114, 111, 109]) (nomark _)) (je_cmp op_ge ok_ge (je_var 6) (je_var 5) (nomark _)) (je_cmp (op_eqD hr.units) ok_eq (je_var 6) (je_var 5) (nomark _))))))))
abbrev s_law_draw : Stmt := top 4
theorem sc_law_draw : FnScope N_law_draw ["tape", "many"] (defScope s_law_draw) := ⟨rfl, rfl, rfl, by decide +kernel, rfl, by decide +kernel, by decide +kernel⟩
theorem bi_law_draw {f : Addr} {fd : FuncData} (F : FnP K "_law_draw" "_law_draw" s_law_draw f fd) : Binds K fd ["tape", "many"] [] := F.bindsN fun _ _ _ _ _ _ us hl => match us, hl with | [_, _], _ => rfl
theorem j_law_draw (T : Tx mg) {f : Addr} {fd : FuncData} (F : FnP K "_law_draw" "_law_draw" s_law_draw f fd)  : JAt P w K mg base cl 1 f 2 m_law_draw := by
  have nd := sc_law_draw.nd
  refine fn_ok (N := N_law_draw) (ps := ["tape", "many"]) (body := b_law_draw) F (bi_law_draw F) sc_law_draw fun cdv A outer s H E hr tk po => ?_
  exact (jss_cons (js_set (i := 2) nd je_int)
      (jss_cons (js_if (jt_cmp op_lt ok_lt (je_ix ix_U ok_ix (je_var 0) je_int (fun _ _ => rfl)) (je_var 1) (nomark _)) (jss_cons (js_set (i := 3) nd je_int)
      (jss_cons (js_if (jt_cmp op_gt ok_gt (je_callB call_len ok_len (by rfl) T.nlen bb_len (ja_cons (je_ix ix_U ok_ix (je_var 0) je_int (fun _ _ => rfl)) ja_nil)) je_int (nomark _)) (jss_one (js_set (i := 3) nd (je_ix ix_U ok_ix (je_ix ix_U ok_ix (je_var 0) je_int (fun _ _ => rfl)) (je_op op_mod ok_mod (je_ix ix_U ok_ix (je_var 0) je_int (fun _ _ => rfl)) (je_callB call_len ok_len (by rfl) T.nlen bb_len (ja_cons (je_ix ix_U ok_ix (je_var 0) je_int (fun _ _ => rfl)) ja_nil))) (fun _ _ => rfl)))) jss_nil)
      (jss_cons (js_if (jt_w (jw_or (jt_cmp op_ge ok_ge (je_ix ix_U ok_ix (je_var 0) je_int (fun _ _ => rfl)) (je_callB call_len ok_len (by rfl) T.nlen bb_len (ja_cons (je_ix ix_U ok_ix (je_var 0) je_int (fun _ _ => rfl)) ja_nil)) (nomark _)) (jw_or1 (jt_cmp op_lt ok_lt (je_var 3) (je_op op_pow ok_pow je_int je_int) (nomark _))))) (jss_cons (js_set (i := 3) nd (je_op op_mod ok_mod (je_op op_addU ok_add (je_var 3) (je_op op_mulU ok_mul je_int (je_ix ix_U ok_ix (je_var 0) je_int (fun _ _ => rfl)))) (je_var 2)))
      (jss_cons (js_set (i := 3) nd (je_op op_mod ok_mod (je_op op_addU ok_add (je_op op_addU ok_add (je_op op_mulU ok_mul (je_var 3) (je_var 3)) (je_op op_mulU ok_mul je_int (je_var 3))) je_int) (je_var 2)))
      (jss_one (js_set (i := 3) nd (je_op op_mod ok_mod (je_op op_addU ok_add (je_op op_mulU ok_mul (je_var 3) (je_var 3)) je_int) (je_var 2)))))) jss_nil)
      (jss_cons (js_asg (je_op op_addU ok_add (je_ix ix_U ok_ix (je_var 0) je_int (fun _ _ => rfl)) je_int) (jg_set (cl := cl) (je_var 0) je_int))
      (jss_one (js_asg (je_var 3) (jg_set (cl := cl) (je_var 0) je_int))))))) jss_nil)
      (jss_cons (js_set (i := 4) nd (je_op op_mod ok_mod (je_ix ix_U ok_ix (je_var 0) je_int (fun _ _ => rfl)) (je_var 1)))
      (jss_cons (js_asg (je_op op_fdivW ok_div (je_ix ix_U ok_ix (je_var 0) je_int (fun _ _ => rfl)) (je_var 1)) (jg_set (cl := cl) (je_var 0) je_int))
      (jss_one (js_ret (je_var 4)))))))
abbrev s_law_like : Stmt := top 5
theorem sc_law_like : FnScope N_law_like ["one", "two"] (defScope s_law_like) := ⟨rfl, rfl, rfl, by decide +kernel, rfl, by decide +kernel, by decide +kernel⟩
theorem bi_law_like {f : Addr} {fd : FuncData} (F : FnP K "_law_like" "_law_like" s_law_like f fd) : Binds K fd ["one", "two"] [] := F.bindsN fun _ _ _ _ _ _ us hl => match us, hl with | [_, _], _ => rfl
theorem j_law_like_n (T : Tx mg) {f : Addr} {fd : FuncData} (F : FnP K "_law_like" "_law_like" s_law_like f fd)  (hm : mg "_law_like" = some (.ref f)) : ∀ n : Nat, JAt P w K mg base cl (1 + n) f 2 (m_law_like_n n)
  | 0 => fn_none F (bi_law_like F) sc_law_like
  | n + 1 => by
    have J_law_like : JFn P w K mg base cl (1 + n) "_law_like" 2 (m_law_like_n n) := ⟨f, hm, j_law_like_n T F  hm n⟩
    have nd := sc_law_like.nd
    refine fn_ok (N := N_law_like) (ps := ["one", "two"]) (body := b_law_like (m_law_like_n n)) F (bi_law_like F) sc_law_like fun cdv A outer s H E hr tk po => ?_
    exact (jss_cons (js_if (jt_val (je_callB call_isiU ok_isi (by rfl) T.nisinstance bb_isinstance (ja_cons (je_var 0) (ja_cons (je_tup (ja_cons (je_ty (by rfl) T.nlist bb_list) (ja_cons (je_ty (by rfl) T.ntuple bb_tuple) ja_nil))) ja_nil)))) (jss_cons (js_if (jt_w (jw_or (jt_cmp (op_neD hr.units) ok_ne (je_callB call_isiU ok_isi (by rfl) T.nisinstance bb_isinstance (ja_cons (je_var 0) (ja_cons (je_ty (by rfl) T.nlist bb_list) ja_nil))) (je_callB call_isiU ok_isi (by rfl) T.nisinstance bb_isinstance (ja_cons (je_var 1) (ja_cons (je_ty (by rfl) T.nlist bb_list) ja_nil))) (nomark _)) (jw_or1 (jt_cmp (op_neD hr.units) ok_ne (je_callB call_isiU ok_isi (by rfl) T.nisinstance bb_isinstance (ja_cons (je_var 0) (ja_cons (je_ty (by rfl) T.ntuple bb_tuple) ja_nil))) (je_callB call_isiU ok_isi (by rfl) T.nisinstance bb_isinstance (ja_cons (je_var 1) (ja_cons (je_ty (by rfl) T.ntuple bb_tuple) ja_nil))) (nomark _))))) (jss_one (js_ret je_bl)) jss_nil)
      (jss_cons (js_if (jt_cmp (op_neD hr.units) ok_ne (je_callB call_len ok_len (by rfl) T.nlen bb_len (ja_cons (je_var 0) ja_nil)) (je_callB call_len ok_len (by rfl) T.nlen bb_len (ja_cons (je_var 1) ja_nil)) (nomark _)) (jss_one (js_ret je_bl)) jss_nil)
      (jss_one (js_ret (je_cmp (op_eqD hr.units) ok_eq (je_lc rfl nd (ji_range1 (by rfl) T.nrange (ja_cons (je_callB call_len ok_len (by rfl) T.nlen bb_len (ja_cons (je_var 0) ja_nil)) ja_nil)) (blkOk_by (own := [("k", 2)]) (N := N_law_like) (sc := (defScope s_law_like)) (by decide +kernel)) (fun _ _ _ _ _ => (jc_name (i := 2) nd)) (fun _ _ _ _ _ => (jts_one (jt_not (jt_val (je_call J_law_like hr (by show _ ≤ 1 + n; omega) takes0 (by rfl) (ja_cons (je_ix ix_U ok_ix (je_var 0) (je_var 2) (fun _ _ => rfl)) (ja_cons (je_ix ix_U ok_ix (je_var 1) (je_var 2) (fun _ _ => rfl)) ja_nil))))))) (fun _ _ _ _ _ => (je_var 2))) (je_lst ja_nil) (nomark _)))))) jss_nil)
      (jss_cons (js_if (jt_val (je_callB call_isiU ok_isi (by rfl) T.nisinstance bb_isinstance (ja_cons (je_var 1) (ja_cons (je_tup (ja_cons (je_ty (by rfl) T.nlist bb_list) (ja_cons (je_ty (by rfl) T.ntuple bb_tuple) ja_nil))) ja_nil)))) (jss_one (js_ret je_bl)) jss_nil)
      (jss_one (js_ret (je_and (je_cmp (op_eqD hr.units) ok_eq (je_callB call_isiU ok_isi (by rfl) T.nisinstance bb_isinstance (ja_cons (je_var 0) (ja_cons (je_ty (by rfl) T.nbool bb_bool) ja_nil))) (je_callB call_isiU ok_isi (by rfl) T.nisinstance bb_isinstance (ja_cons (je_var 1) (ja_cons (je_ty (by rfl) T.nbool bb_bool) ja_nil))) (nomark _)) (je_one (je_cmp (op_eqD hr.units) ok_eq (je_var 0) (je_var 1) (nomark _))))))))
theorem j_law_like (T : Tx mg) {f : Addr} {fd : FuncData} (F : FnP K "_law_like" "_law_like" s_law_like f fd)  (hm : mg "_law_like" = some (.ref f)) : JAt P w K mg base cl 5 f 2 m_law_like := j_law_like_n T F  hm 4
abbrev s_law_row : Stmt := top 6
theorem sc_law_row : FnScope N_law_row ["tape", "days"] (defScope s_law_row) := ⟨rfl, rfl, rfl, by decide +kernel, rfl, by decide +kernel, by decide +kernel⟩
theorem bi_law_row {f : Addr} {fd : FuncData} (F : FnP K "_law_row" "_law_row" s_law_row f fd) : Binds K fd ["tape", "days"] [] := F.bindsN fun _ _ _ _ _ _ us hl => match us, hl with | [_, _], _ => rfl
theorem j_law_row (T : Tx mg) {f : Addr} {fd : FuncData} (F : FnP K "_law_row" "_law_row" s_law_row f fd) (J_law_draw : JFn P w K mg base cl 1 "_law_draw" 2 m_law_draw) : JAt P w K mg base cl 2 f 2 m_law_row := by
  have nd := sc_law_row.nd
  refine fn_ok (N := N_law_row) (ps := ["tape", "days"]) (body := b_law_row) F (bi_law_row F) sc_law_row fun cdv A outer s H E hr tk po => ?_
  exact (jss_cons (js_par (i := 2) (j := 3) rfl nd (by decide) (ja_cons (je_ix ix_U ok_ix (je_lst (ja_cons je_int (ja_cons je_int (ja_cons je_int ja_nil)))) (je_call J_law_draw hr (by decide) tk (by rfl) (ja_cons (je_var 0) (ja_cons je_int ja_nil))) (fun _ _ => rfl)) (ja_cons (je_str []) ja_nil)))
      (jss_cons (js_for po rfl (ji_range1 (by rfl) T.nrange (ja_cons (je_var 1) ja_nil)) (jg_name (i := 4) nd) (jss_one (js_set (i := 3) nd (je_op op_addU ok_add (je_var 3) (je_ix ix_U ok_ix (je_str [119, 102]) (je_callTy call_int1 ok_intOf (by rfl) T.nint bb_int (ja_cons (je_cmp (op_eqD hr.units) ok_eq (je_call J_law_draw hr (by decide) tk (by rfl) (ja_cons (je_var 0) (ja_cons (je_op op_addU ok_add (je_var 2) je_int) ja_nil))) je_int (nomark _)) ja_nil)) (fun _ _ => rfl))))))
      (jss_one (js_ret (je_var 3)))))
abbrev s_law_due : Stmt := top 7
theorem sc_law_due : FnScope N_law_due ["row", "start", "count"] (defScope s_law_due) := ⟨rfl, rfl, rfl, by decide +kernel, rfl, by decide +kernel, by decide +kernel⟩
theorem bi_law_due {f : Addr} {fd : FuncData} (F : FnP K "_law_due" "_law_due" s_law_due f fd) : Binds K fd ["row", "start", "count"] [] := F.bindsN fun _ _ _ _ _ _ us hl => match us, hl with | [_, _, _], _ => rfl
theorem j_law_due (T : Tx mg) {f : Addr} {fd : FuncData} (F : FnP K "_law_due" "_law_due" s_law_due f fd)  : JAt P w K mg base cl 1 f 3 m_law_due := by
  have nd := sc_law_due.nd
  refine fn_ok (N := N_law_due) (ps := ["row", "start", "count"]) (body := b_law_due) F (bi_law_due F) sc_law_due fun cdv A outer s H E hr tk po => ?_
  exact (jss_cons (js_setLc (i := 3) rfl nd (sw_true rfl rfl rfl (by decide +kernel)) (ji_range2 (by rfl) T.nrange (ja_cons (je_op op_addU ok_add (je_var 1) je_int) (ja_cons (je_callB call_len ok_len (by rfl) T.nlen bb_len (ja_cons (je_var 0) ja_nil)) ja_nil))) (blkOk_by (own := [("day", 4)]) (N := N_law_due) (sc := (defScope s_law_due)) (by decide +kernel)) (fun _ _ _ _ _ => (jc_name (i := 4) nd)) (fun _ _ _ _ _ => (jts_one (jt_cmp (op_eqD hr.units) ok_eq (je_ix ix_U ok_ix (je_var 0) (je_var 4) (fun _ _ => rfl)) (je_str [119]) (nomark _)))) (fun _ _ _ _ _ => (je_var 4)))
      (jss_one (js_ret (je_ite (jt_cmp op_le ok_le (je_var 2) (je_callB call_len ok_len (by rfl) T.nlen bb_len (ja_cons (je_var 3) ja_nil)) (nomark _)) (je_ix ix_U ok_ix (je_var 3) (je_op op_sub ok_sub (je_var 2) je_int) (fun _ _ => rfl)) (je_callB call_len ok_len (by rfl) T.nlen bb_len (ja_cons (je_var 0) ja_nil))))))
abbrev s_law_k02 : Stmt := top 8
theorem sc_law_k02 : FnScope N_law_k02 ["script"] (defScope s_law_k02) := ⟨rfl, rfl, rfl, by decide +kernel, rfl, by decide +kernel, by decide +kernel⟩
theorem bi_law_k02 {f : Addr} {fd : FuncData} (F : FnP K "law" "law" s_law_k02 f fd) : Binds K fd ["script"] [] := F.bindsN fun _ _ _ _ _ _ us hl => match us, hl with | [_], _ => rfl
theorem j_law_k02 (T : Tx mg) {f : Addr} {fd : FuncData} (F : FnP K "law" "law" s_law_k02 f fd) (J_law_draw : JFn P w K mg base cl 1 "_law_draw" 2 m_law_draw) (J_law_row : JFn P w K mg base cl 2 "_law_row" 2 m_law_row) (J_keeps : JFn P w K mg base cl 2 "keeps" 2 m_keeps) (J_law_due : JFn P w K mg base cl 1 "_law_due" 3 m_law_due) (J_law_like : JFn P w K mg base cl 5 "_law_like" 2 m_law_like) : FnOk P w K mg base (L2.CX P w) 6 f fd ["script"] (SpF K cl 1 m_law_k02) := by
  have nd := sc_law_k02.nd
  refine fn_fo (N := N_law_k02) (ps := ["script"]) (body := b_law_k02) F sc_law_k02 fun cdv A outer s H E hr tk po => ?_
  exact (jss_cons (js_set (i := 1) nd (je_own (ja_cons (je_callTy call_list_of ok_list (by rfl) T.nlist bb_list (ja_cons (je_var 0) ja_nil)) (ja_cons je_int (ja_cons je_int ja_nil)))))
      (jss_cons (js_for po rfl (ji_range1 (by rfl) T.nrange (ja_cons je_int ja_nil)) (jg_name (i := 2) nd) (jss_cons (js_set (i := 3) nd (je_call J_law_row hr (by decide) tk (by rfl) (ja_cons (je_var 1) (ja_cons (je_op op_addU ok_add je_int (je_call J_law_draw hr (by decide) tk (by rfl) (ja_cons (je_var 1) (ja_cons je_int ja_nil)))) ja_nil))))
      (jss_cons (js_set (i := 4) nd (je_callB call_len ok_len (by rfl) T.nlen bb_len (ja_cons (je_var 3) ja_nil)))
      (jss_one (js_for po rfl (ji_range1 (by rfl) T.nrange (ja_cons je_int ja_nil)) (jg_name (i := 5) nd) (jss_cons (js_set (i := 6) nd (je_op op_sub ok_sub (je_call J_law_draw hr (by decide) tk (by rfl) (ja_cons (je_var 1) (ja_cons (je_var 4) ja_nil))) je_int))
      (jss_cons (js_asg (je_tup (ja_cons (je_op op_addU ok_add je_int (je_call J_law_draw hr (by decide) tk (by rfl) (ja_cons (je_var 1) (ja_cons (je_var 4) ja_nil)))) (ja_cons (je_op op_addU ok_add (je_op op_addU ok_add (je_var 6) je_int) (je_call J_law_draw hr (by decide) tk (by rfl) (ja_cons (je_var 1) (ja_cons (je_op op_sub ok_sub (je_op op_sub ok_sub (je_var 4) je_int) (je_var 6)) ja_nil)))) ja_nil))) (jg_tup rfl (jgs_cons (jg_name (i := 7) nd) (jgs_cons (jg_name (i := 8) nd) jgs_nil))))
      (jss_cons (js_setLc (i := 9) rfl nd (sw_true rfl rfl rfl (by decide +kernel)) (ji_any (je_tup (ja_cons (je_str [111, 110]) (ja_cons (je_str [98, 121]) (ja_cons (je_str [102, 114, 111, 109]) ja_nil))))) (blkOk_by (own := [("kind", 11)]) (N := N_law_k02) (sc := (defScope s_law_k02)) (by decide +kernel)) (fun _ _ _ _ _ => (jc_name (i := 11) nd)) (fun _ _ _ _ _ => jts_nil) (fun _ _ _ _ _ => (je_call J_keeps hr (by decide) takes0 (by rfl) (ja_cons (je_var 3) (ja_cons (je_tup (ja_cons (je_var 11) (ja_cons (je_var 6) (ja_cons (je_var 7) (ja_cons (je_var 8) ja_nil))))) ja_nil)))))
      (jss_cons (js_set (i := 10) nd (je_call J_law_due hr (by decide) tk (by rfl) (ja_cons (je_var 3) (ja_cons (je_var 6) (ja_cons (je_var 7) ja_nil)))))
      (jss_cons (js_if (jt_not (jt_val (je_call J_law_like hr (by decide) tk (by rfl) (ja_cons (je_var 9) (ja_cons (je_lst (ja_cons (je_cmp (op_eqD hr.units) ok_eq (je_var 10) (je_var 8) (nomark _)) (ja_cons (je_cmp op_le ok_le (je_var 10) (je_var 8) (nomark _)) (ja_cons (je_cmp op_ge ok_ge (je_var 10) (je_var 8) (nomark _)) ja_nil)))) ja_nil))))) (jss_one (js_ret je_bl)) jss_nil)
      (jss_one (js_if (jt_cmp (op_neD hr.units) ok_ne (je_ix ix_U ok_ix (je_var 9) je_int (fun _ _ => rfl)) (je_and (je_ix ix_U ok_ix (je_var 9) je_int (fun _ _ => rfl)) (je_one (je_ix ix_U ok_ix (je_var 9) je_int (fun _ _ => rfl)))) (nomark _)) (jss_one (js_ret je_bl)) jss_nil))))))))))))
      (jss_one (js_ret (je_and (je_cmp op_isU ok_is (je_call J_keeps hr (by decide) tk (by rfl) (ja_cons (je_str [102, 102]) (ja_cons (je_tup (ja_cons (je_str [102, 114, 111, 109]) (ja_cons (je_un un_neg ok_neg je_int) (ja_cons je_int (ja_cons je_int ja_nil))))) ja_nil))) je_bl (nomark _)) (je_one (je_cmp op_isU ok_is (je_call J_keeps hr (by decide) tk (by rfl) (ja_cons (je_str [102, 102]) (ja_cons (je_tup (ja_cons (je_str [98, 121]) (ja_cons (je_un un_neg ok_neg je_int) (ja_cons je_int (ja_cons je_int ja_nil))))) ja_nil))) je_bl (nomark _))))))))
end
def dd_due_day : He.DefD := ⟨("due_day", none), "due_day", "due_day", defArgs s_due_day, defBody s_due_day, defScope s_due_day, [], []⟩
def dd_keeps : He.DefD := ⟨("keeps", none), "keeps", "keeps", defArgs s_keeps, defBody s_keeps, defScope s_keeps, [], []⟩
def dd_law_draw : He.DefD := ⟨("_law_draw", none), "_law_draw", "_law_draw", defArgs s_law_draw, defBody s_law_draw, defScope s_law_draw, [], []⟩
def dd_law_like : He.DefD := ⟨("_law_like", none), "_law_like", "_law_like", defArgs s_law_like, defBody s_law_like, defScope s_law_like, [], []⟩
def dd_law_row : He.DefD := ⟨("_law_row", none), "_law_row", "_law_row", defArgs s_law_row, defBody s_law_row, defScope s_law_row, [], []⟩
def dd_law_due : He.DefD := ⟨("_law_due", none), "_law_due", "_law_due", defArgs s_law_due, defBody s_law_due, defScope s_law_due, [], []⟩
def dd_law_k02 : He.DefD := ⟨("law", none), "law", "law", defArgs s_law_k02, defBody s_law_k02, defScope s_law_k02, [], []⟩
def fn : List He.DefD := [dd_due_day, dd_keeps, dd_law_draw, dd_law_like, dd_law_row, dd_law_due, dd_law_k02]
def fa : List He.Fa := [.glo "due_day", .glo "keeps", .glo "_law_draw", .glo "_law_like", .glo "_law_row", .glo "_law_due", .glo "law", .free "len", .free "range", .free "list", .free "tuple", .free "isinstance", .free "bool", .free "int"]
abbrev R : PySem.W.OpenRow := PySem.W.OpenLaw.row PySem.Challenge.rw_workdaylogs_k02_promises_that_are_kept
abbrev hk : PySem.W.Hook := He.hookD 5 fa fn
def ob (s : PySem.W.SharedT) : He.AlD := He.obsDG 5 fa fn (HandSHeadRun.getT s)
theorem ob_eq (s : PySem.W.SharedT) : ob s = hk.obs s.abs := He.obsDG_eq (HandSHeadRun.getT_eq s)
def loose : List Str := ["due_day", "keeps", "_law_draw", "_law_like", "_law_row", "_law_due"]
theorem run (w : World) : HandSHeadRun.RunEq R (PySem.W.view R.prog [8]) hk ob 2000 loose w := by
  intro os
  kernel_rfl
def clN : Nat → Value := fun _ => .none
theorem facts {P : Program} {w : World} {K : PySem.W.Frag} {h : Heap} {mg : Str → Option Value} {f : Addr} (X : K.In h) (G : h.Ns mainGlobals mg) (hfa : mg ("law" : Str) = some (.ref f)) (c : He.SaysD fa fn K) :
    ∃ fd : FuncData, (∀ (s : Shared) (v : Value), BindsTo s fd ⟨[v], []⟩ [("script", v)]) ∧ ∀ base : Heap, K.In base → base.Ns mainGlobals mg → FnOk P w K mg base (L2.CX P w) 6 f fd ["script"] (SpF K clN 1 m_law_k02) := by
  obtain ⟨fd_due_day, F_due_day⟩ := c.def_ 0 (d := dd_due_day) rfl
  obtain ⟨fd_keeps, F_keeps⟩ := c.def_ 1 (d := dd_keeps) rfl
  obtain ⟨fd_law_draw, F_law_draw⟩ := c.def_ 2 (d := dd_law_draw) rfl
  obtain ⟨fd_law_like, F_law_like⟩ := c.def_ 3 (d := dd_law_like) rfl
  obtain ⟨fd_law_row, F_law_row⟩ := c.def_ 4 (d := dd_law_row) rfl
  obtain ⟨fd_law_due, F_law_due⟩ := c.def_ 5 (d := dd_law_due) rfl
  obtain ⟨fd_law_k02, F_law_k02⟩ := c.def_ 6 (d := dd_law_k02) rfl
  have g_due_day := He.glo_ok X G (c.fact 0 (f := .glo "due_day") rfl)
  have g_keeps := He.glo_ok X G (c.fact 1 (f := .glo "keeps") rfl)
  have g_law_draw := He.glo_ok X G (c.fact 2 (f := .glo "_law_draw") rfl)
  have g_law_like := He.glo_ok X G (c.fact 3 (f := .glo "_law_like") rfl)
  have g_law_row := He.glo_ok X G (c.fact 4 (f := .glo "_law_row") rfl)
  have g_law_due := He.glo_ok X G (c.fact 5 (f := .glo "_law_due") rfl)
  have g_law_k02 := He.glo_ok X G (c.fact 6 (f := .glo "law") rfl)
  have T : Tx mg := ⟨He.free_ok X G (c.fact 7 (f := .free "len") rfl), He.free_ok X G (c.fact 8 (f := .free "range") rfl), He.free_ok X G (c.fact 9 (f := .free "list") rfl), He.free_ok X G (c.fact 10 (f := .free "tuple") rfl), He.free_ok X G (c.fact 11 (f := .free "isinstance") rfl), He.free_ok X G (c.fact 12 (f := .free "bool") rfl), He.free_ok X G (c.fact 13 (f := .free "int") rfl)⟩
  have e := hfa.symm.trans g_law_k02
  cases e
  have b := FunD.bindsA (ps := ["script"]) F_law_k02 fun _ _ _ _ _ _ us hl => match us, hl with | [_], _ => rfl
  refine ⟨fd_law_k02, fun s v => b s [v] rfl, fun base _ _ => ?_⟩
  have J_due_day : JFn P w K mg base clN 1 "due_day" 3 m_due_day := ⟨_, g_due_day, j_due_day T F_due_day ⟩
  have J_keeps : JFn P w K mg base clN 2 "keeps" 2 m_keeps := ⟨_, g_keeps, j_keeps T F_keeps J_due_day⟩
  have J_law_draw : JFn P w K mg base clN 1 "_law_draw" 2 m_law_draw := ⟨_, g_law_draw, j_law_draw T F_law_draw ⟩
  have J_law_like : JFn P w K mg base clN 5 "_law_like" 2 m_law_like := ⟨_, g_law_like, j_law_like T F_law_like  g_law_like⟩
  have J_law_row : JFn P w K mg base clN 2 "_law_row" 2 m_law_row := ⟨_, g_law_row, j_law_row T F_law_row J_law_draw⟩
  have J_law_due : JFn P w K mg base clN 1 "_law_due" 3 m_law_due := ⟨_, g_law_due, j_law_due T F_law_due ⟩
  exact j_law_k02 T F_law_k02 J_law_draw J_law_row J_keeps J_law_due J_law_like
end Fl
open PySem PySem.W PySem.Calls PyProof.Rows
theorem PySem.Challenge.cw_workdaylogs_k02_promises_that_are_kept_holds : PySem.Challenge.rw_workdaylogs_k02_promises_that_are_kept.Holds := by
  w_on; o_law
  refine HandSHeadRun.head_any (r := OpenLaw.row PySem.Challenge.rw_workdaylogs_k02_promises_that_are_kept) (q := view (OpenLaw.row PySem.Challenge.rw_workdaylogs_k02_promises_that_are_kept).prog [8]) (H := Fl.hk) (ob := Fl.ob) (M := 2000) (loose := Fl.loose) (d := HandSHeadRun.topDef (OpenLaw.row PySem.Challenge.rw_workdaylogs_k02_promises_that_are_kept).prog 8) (kwd := []) Fl.ob_eq
    (by kernel_rfl) (fun s => by kernel_rfl) Fl.run (by kernel_rfl) (by kernel_rfl) (by kernel_rfl) (by rfl) (by first | assumption | decide +kernel) (by decide +kernel) ⟨rfl, rfl, rfl, rfl, rfl, by decide +kernel⟩ ?hw ?hc
  case hw => w_witness2
  case hc =>
    refine Fl.law_end (l := PySem.Challenge.rw_workdaylogs_k02_promises_that_are_kept) (k := 6) (m := Fl.m_law_k02) rfl (by kernel_rfl) ⟨rfl, by decide, by decide⟩ Fl.law_k02_true ?F
    intro w mg fa h Y G hmg0
    obtain ⟨K, KX, c⟩ := Y
    have hmg : mg ("law" : PySem.Str) = some (.ref fa) := by
      have e : (HandSHeadRun.topDef (OpenLaw.row PySem.Challenge.rw_workdaylogs_k02_promises_that_are_kept).prog 8).name = ("law" : PySem.Str) := by kernel_rfl
      rw [← e]
      exact hmg0
    obtain ⟨fd, hb, hF⟩ := Fl.facts (P := (PySem.Challenge.rw_workdaylogs_k02_promises_that_are_kept).prog) (w := w) KX G hmg c
    exact ⟨K, fd, Fl.clN, KX, hb, hF⟩
