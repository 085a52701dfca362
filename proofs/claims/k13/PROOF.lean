import PyProof.Rows.All
import Wide.All
import OpenK.AllK
import Wide.FinOn
import HandS.ForMost
import HandS.Codes
import HandS.Walk
import KE.KDictKeyed
import HandS.HeadHook1
import HandS.Exc
import HandS.TryOnly
import HandS.TryMany
import HandS.ExcOwn
import HandS.WordsExc
import HandS.Wide
import HandS.Style
import HandS.Deep
import HandS.IsInst
import HandS.TupAny
import HandS.Zip
import HandS.Defaults
import HandS.TupMul
import PyProof.StrOps2
import KE.GoesNew
import HandS.Star
import HandS.Text
import HandS.More
import HandS.SetFor
import HandS.Strs
import PyProof.Rows.SortShellAny
import HandS.Conv
import HandS.Head0
import HandS.Head1
import HandS.Head2
import HandS.HeadEnd
import HandS.HeadHook2
import HandS.Property
import OpenK.KMeth
import OpenK.KOps
import PyProof.ExcBaseAll.ValueError
import KE.KDictWalk
import HandS.Dict
import HandS.Iter
import HandS.SortInts
import KE.KDictDisplayH
import PyProof.Rows.CountFlat
import KE.KStateDown
import PySem.Challenge.RW_workdaylogs_k13_whole_best_weeks
set_option Elab.async false
set_option linter.all false
set_option maxRecDepth 100000
/-! Fl: defs as functions on data. D: values without a heap; SO: what may change (lists of one's own); a reading that follows such a function. -/
namespace Fl
open PySem PySem.Spec PyProof.Rows L2
/-- data: `ob k` is the k-th thing of the store -/
inductive D where
  | non | bl (b : Bool) | int (i : Int) | str (s : List Nat) | tup (ds : List D) | lst (ds : List D) | scr (ns : List Int) | ty (n : String) | ob (k : Nat)
/-- what may change -/
inductive SO where
  | dead | lst (ds : List D) | ins (c : Nat) (ds : List D) | dic (kvs : List (NestedKey × D))
abbrev Sto := List SO
abbrev Sl := List (Option D)
/-- the signs of a text -/
def okS (s : List Nat) : Bool := s.all fun c => decide (c < 0x110000)
/-- a tuple that stands for good, or one of the module -/
def KT (K : PySem.W.Frag) (a : Addr) (vs : List V) : Prop := ∃ (o : Obj) (its : Array Value) (n : Nat), K.lookup a = some o ∧ o.cls = .type "tuple" ∧ o.data = .seq its n ∧ its.size ≤ sizeLine ∧ Vals vs its.toList
def TupAt (K : PySem.W.Frag) (M : Hp) (a : Addr) (vs : List V) : Prop := M a = some (.tup vs) ∨ KT K a vs
theorem TupAt.sq {K : PySem.W.Frag} {M : Hp} {a : Addr} {vs : List V} (h : TupAt K M a vs) : SqT K M a vs := h.elim (fun h => SqT.of h) .inr
mutual
/-- the value v is the data d, M being what stands for good -/
def RepF (K : PySem.W.Frag) (M : Hp) : D → V → Prop
  | .non, v => v = .non
  | .bl b, v => v = .bl b
  | .int i, v => v = .int i
  | .str s, v => v = .str ⟨s.toArray⟩ ∧ okS s = true
  | .tup ds, v => ∃ a vs, v = .ref a ∧ TupAt K M a vs ∧ RepL K M ds vs
  | .lst ds, v => ∃ a vs, v = .ref a ∧ M a = some (.lst vs) ∧ RepL K M ds vs
  | .scr ns, v => ∃ a, v = .ref a ∧ SqL K M a (ns.map V.int)
  | .ty n, v => v = .ty n
  | .ob _, _ => False
def RepL (K : PySem.W.Frag) (M : Hp) : List D → List V → Prop
  | [], vs => vs = []
  | d :: ds, vs => ∃ v r, vs = v :: r ∧ RepF K M d v ∧ RepL K M ds r
end
/-- ι: where the store's things stand -/
def Rep (K : PySem.W.Frag) (M : Hp) (ι : List Addr) : D → V → Prop
  | .ob k, v => ∃ a, v = .ref a ∧ ι[k]? = some a
  | d, v => RepF K M d v
def flat : D → Bool
  | .ob _ => false
  | _ => true
def flats (ds : List D) : Bool := ds.all flat
abbrev Ex (H H' : Hp) : Prop := ∀ a o, H a = some o → H' a = some o
theorem Ex.refl (H : Hp) : Ex H H := fun _ _ h => h
theorem Ex.trans {H H1 H2 : Hp} (a : Ex H H1) (b : Ex H1 H2) : Ex H H2 := fun x o h => b x o (a x o h)
theorem Ex.rd {H H' : Hp} {a : Addr} {u : HO} (e : Ex H H') (h : Rd H a u) : Rd H' a u := by
  rcases h with h | ⟨o, h⟩
  · exact .inl (e a _ h)
  · exact .inr ⟨o, e a _ h⟩
theorem Ex.l {K : PySem.W.Frag} {H H' : Hp} {a : Addr} {xs : List V} (e : Ex H H') (h : SqL K H a xs) : SqL K H' a xs := h.elim (fun h => .inl (Ex.rd e h)) .inr
theorem Ex.t {K : PySem.W.Frag} {H H' : Hp} {a : Addr} {xs : List V} (e : Ex H H') (h : SqT K H a xs) : SqT K H' a xs := h.elim (fun h => .inl (Ex.rd e h)) .inr
theorem Ex.new {H : Hp} {p : Addr} {o : HO} (h : H p = none) : Ex H (upd H p o) := fun a u e => by
  rw [upd_ne (ne_of_none e h)]; exact e
section
variable {K : PySem.W.Frag} {M M' : Hp} {ι ι' : List Addr}
mutual
theorem RepF.mono (m : Ex M M') : ∀ {d : D} {v : V}, RepF K M d v → RepF K M' d v
  | .non, v, h => by unfold RepF at h ⊢; exact h
  | .bl b, v, h => by unfold RepF at h ⊢; exact h
  | .int i, v, h => by unfold RepF at h ⊢; exact h
  | .str s, v, h => by unfold RepF at h ⊢; exact h
  | .ty n, v, h => by unfold RepF at h ⊢; exact h
  | .tup ds, v, h => by
    unfold RepF at h ⊢
    obtain ⟨a, vs, e, h1, h2⟩ := h
    exact ⟨a, vs, e, h1.elim (fun h => .inl (m _ _ h)) .inr, RepL.mono m h2⟩
  | .lst ds, v, h => by
    unfold RepF at h ⊢
    obtain ⟨a, vs, e, h1, h2⟩ := h
    exact ⟨a, vs, e, m _ _ h1, RepL.mono m h2⟩
  | .scr ns, v, h => by
    unfold RepF at h ⊢
    obtain ⟨a, e, h1⟩ := h
    exact ⟨a, e, Ex.l m h1⟩
  | .ob k, v, h => by unfold RepF at h; exact h.elim
theorem RepL.mono (m : Ex M M') : ∀ {ds : List D} {vs : List V}, RepL K M ds vs → RepL K M' ds vs
  | [], vs, h => by unfold RepL at h ⊢; exact h
  | d :: ds, vs, h => by
    unfold RepL at h ⊢
    obtain ⟨v, r, e, h1, h2⟩ := h
    exact ⟨v, r, e, RepF.mono m h1, RepL.mono m h2⟩
end
theorem Rep.of {d : D} {v : V} (h : RepF K M d v) : Rep K M ι d v := by
  cases d <;> first | exact h | (unfold RepF at h; exact h.elim)
theorem Rep.f {d : D} {v : V} (h : Rep K M ι d v) (f : flat d = true) : RepF K M d v := by
  cases d <;> first | exact h | cases f
theorem Rep.mono (m : Ex M M') (i : ∀ (k : Nat) (a : Addr), ι[k]? = some a → ι'[k]? = some a) {d : D} {v : V} (h : Rep K M ι d v) : Rep K M' ι' d v := by
  cases d with
  | ob k =>
    obtain ⟨a, e, h1⟩ := h
    exact ⟨a, e, i _ _ h1⟩
  | _ => exact Rep.of (RepF.mono m h)
theorem RepL.length : ∀ {ds : List D} {vs : List V}, RepL K M ds vs → vs.length = ds.length
  | [], vs, h => by unfold RepL at h; rw [h]; rfl
  | d :: ds, vs, h => by
    unfold RepL at h
    obtain ⟨v, r, rfl, _, h2⟩ := h
    simp [RepL.length h2]
theorem RepL.get : ∀ {ds : List D} {vs : List V} {i : Nat} {d : D}, RepL K M ds vs → ds[i]? = some d → ∃ v, vs[i]? = some v ∧ RepF K M d v
  | [], _, _, _, _, e => by simp at e
  | d :: ds, vs, 0, x, h, e => by
    unfold RepL at h
    obtain ⟨v, r, rfl, h1, _⟩ := h
    simp at e; subst e
    exact ⟨v, rfl, h1⟩
  | d :: ds, vs, i + 1, x, h, e => by
    unfold RepL at h
    obtain ⟨v, r, rfl, _, h2⟩ := h
    simp at e
    obtain ⟨u, h3, h4⟩ := RepL.get h2 e
    exact ⟨u, by simpa using h3, h4⟩
theorem RepL.getV {ds : List D} {vs : List V} {i : Nat} {v : V} (h : RepL K M ds vs) (e : vs[i]? = some v) : ∃ d, ds[i]? = some d ∧ RepF K M d v := by
  have hl := h.length
  have hi : i < ds.length := by rw [← hl]; exact (List.getElem?_eq_some_iff.mp e).1
  obtain ⟨u, h1, h2⟩ := h.get (List.getElem?_eq_getElem hi)
  rw [e] at h1; cases h1
  exact ⟨_, List.getElem?_eq_getElem hi, h2⟩
theorem RepL.nil : RepL K M [] [] := by unfold RepL; rfl
theorem RepL.cons {d : D} {ds : List D} {v : V} {vs : List V} (h : RepF K M d v) (r : RepL K M ds vs) : RepL K M (d :: ds) (v :: vs) := by
  unfold RepL; exact ⟨v, vs, rfl, h, r⟩
theorem RepL.uncons {d : D} {ds : List D} {vs : List V} (h : RepL K M (d :: ds) vs) : ∃ v r, vs = v :: r ∧ RepF K M d v ∧ RepL K M ds r := by
  unfold RepL at h; exact h
theorem RepL.unnil {vs : List V} (h : RepL K M [] vs) : vs = [] := by unfold RepL at h; exact h
theorem RepL.append : ∀ {ds es : List D} {vs us : List V}, RepL K M ds vs → RepL K M es us → RepL K M (ds ++ es) (vs ++ us)
  | [], _, _, _, h, g => by rw [h.unnil]; exact g
  | d :: ds, _, _, _, h, g => by
    obtain ⟨v, r, rfl, h1, h2⟩ := h.uncons
    exact .cons h1 (RepL.append h2 g)
theorem RepL.take : ∀ {ds : List D} {vs : List V} (n : Nat), RepL K M ds vs → RepL K M (ds.take n) (vs.take n)
  | _, _, 0, _ => .nil
  | [], _, _ + 1, h => by rw [h.unnil]; exact .nil
  | d :: ds, _, n + 1, h => by
    obtain ⟨v, r, rfl, h1, h2⟩ := h.uncons
    exact .cons h1 (RepL.take n h2)
theorem RepL.drop : ∀ {ds : List D} {vs : List V} (n : Nat), RepL K M ds vs → RepL K M (ds.drop n) (vs.drop n)
  | _, _, 0, h => h
  | [], _, _ + 1, h => by rw [h.unnil]; exact .nil
  | d :: ds, _, n + 1, h => by
    obtain ⟨v, r, rfl, h1, h2⟩ := h.uncons
    exact RepL.drop n h2
theorem RepL.set : ∀ {ds : List D} {vs : List V} {d : D} {v : V} (i : Nat), RepL K M ds vs → RepF K M d v → RepL K M (ds.set i d) (vs.set i v)
  | [], _, _, _, _, h, _ => by rw [h.unnil]; exact .nil
  | e :: ds, _, _, _, 0, h, g => by
    obtain ⟨v, r, rfl, _, h2⟩ := h.uncons
    exact .cons g h2
  | e :: ds, _, _, _, i + 1, h, g => by
    obtain ⟨v, r, rfl, h1, h2⟩ := h.uncons
    exact .cons h1 (RepL.set i h2 g)
end
/-! ### many, things of the store among them -/
inductive Reps (K : PySem.W.Frag) (M : Hp) (ι : List Addr) : List D → List V → Prop
  | nil : Reps K M ι [] []
  | cons {d : D} {ds : List D} {v : V} {vs : List V} : Rep K M ι d v → Reps K M ι ds vs → Reps K M ι (d :: ds) (v :: vs)
section
variable {K : PySem.W.Frag} {M M' : Hp} {ι ι' : List Addr}
theorem Reps.mono (m : Ex M M') (i : ∀ (k : Nat) (a : Addr), ι[k]? = some a → ι'[k]? = some a) {ds : List D} {vs : List V} (h : Reps K M ι ds vs) : Reps K M' ι' ds vs := by
  induction h with
  | nil => exact .nil
  | cons a _ ih => exact .cons (a.mono m i) ih
theorem Reps.length {ds : List D} {vs : List V} (h : Reps K M ι ds vs) : vs.length = ds.length := by
  induction h with
  | nil => rfl
  | cons _ _ ih => simp [ih]
theorem Reps.flat {ds : List D} {vs : List V} (h : Reps K M ι ds vs) (f : flats ds = true) : RepL K M ds vs := by
  induction h with
  | nil => exact RepL.nil
  | cons a _ ih =>
    simp [flats] at f
    exact .cons (a.f f.1) (ih (by simp [flats]; exact f.2))
theorem Reps.of : ∀ {ds : List D} {vs : List V}, RepL K M ds vs → Reps K M ι ds vs
  | [], _, h => by rw [h.unnil]; exact .nil
  | d :: ds, _, h => by
    obtain ⟨v, r, rfl, h1, h2⟩ := h.uncons
    exact .cons (Rep.of h1) (Reps.of h2)
theorem Reps.get : ∀ {ds : List D} {vs : List V} {i : Nat} {d : D}, Reps K M ι ds vs → ds[i]? = some d → ∃ v, vs[i]? = some v ∧ Rep K M ι d v
  | [], _, _, _, _, e => by simp at e
  | d :: ds, _, 0, x, h, e => by
    cases h with
    | cons h1 _ => simp at e; subst e; exact ⟨_, rfl, h1⟩
  | d :: ds, _, i + 1, x, h, e => by
    cases h with
    | cons _ h2 =>
      simp at e
      obtain ⟨u, h3, h4⟩ := h2.get e
      exact ⟨u, by simpa using h3, h4⟩
theorem Reps.append {ds es : List D} {vs us : List V} (h : Reps K M ι ds vs) (g : Reps K M ι es us) : Reps K M ι (ds ++ es) (vs ++ us) := by
  induction h with
  | nil => exact g
  | cons a _ ih => exact .cons a ih
theorem Reps.set {ds : List D} {vs : List V} {d : D} {v : V} (h : Reps K M ι ds vs) (g : Rep K M ι d v) : ∀ i : Nat, Reps K M ι (ds.set i d) (vs.set i v) := by
  induction h with
  | nil => exact fun _ => .nil
  | cons a b ih =>
    intro i
    cases i with
    | zero => exact .cons g b
    | succ i => exact .cons a (ih i)
end
/-! ### keys of dicts -/
mutual
def KeyM (K : PySem.W.Frag) (M : Hp) : NestedKey → V → Prop
  | .none, v => v = .non
  | .num i, v => v = .int i
  | .text _, _ => False
  | .tup ks, v => ∃ a vs, v = .ref a ∧ TupAt K M a vs ∧ KeysM K M ks vs
def KeysM (K : PySem.W.Frag) (M : Hp) : List NestedKey → List V → Prop
  | [], vs => vs = []
  | k :: ks, vs => ∃ v r, vs = v :: r ∧ KeyM K M k v ∧ KeysM K M ks r
end
mutual
theorem KeyM.mono {K : PySem.W.Frag} {M M' : Hp} (m : Ex M M') : ∀ {k : NestedKey} {v : V}, KeyM K M k v → KeyM K M' k v
  | .none, v, h => by unfold KeyM at h ⊢; exact h
  | .num i, v, h => by unfold KeyM at h ⊢; exact h
  | .text x, v, h => by unfold KeyM at h; exact h.elim
  | .tup ks, v, h => by
    unfold KeyM at h ⊢
    obtain ⟨a, vs, e, h1, h2⟩ := h
    exact ⟨a, vs, e, h1.elim (fun h => .inl (m _ _ h)) .inr, KeysM.mono m h2⟩
theorem KeysM.mono {K : PySem.W.Frag} {M M' : Hp} (m : Ex M M') : ∀ {ks : List NestedKey} {vs : List V}, KeysM K M ks vs → KeysM K M' ks vs
  | [], vs, h => by unfold KeysM at h ⊢; exact h
  | k :: ks, vs, h => by
    unfold KeysM at h ⊢
    obtain ⟨v, r, e, h1, h2⟩ := h
    exact ⟨v, r, e, KeyM.mono m h1, KeysM.mono m h2⟩
end
mutual
/-- no texts in it -/
def ntx : NestedKey → Bool
  | .none => true
  | .num _ => true
  | .text _ => false
  | .tup ks => ntxs ks
def ntxs : List NestedKey → Bool
  | [] => true
  | k :: ks => ntx k && ntxs ks
end
mutual
theorem KeyM.ntx {K : PySem.W.Frag} {M : Hp} : ∀ {k : NestedKey} {v : V}, KeyM K M k v → ntx k = true
  | .none, v, h => by simp [Fl.ntx]
  | .num i, v, h => by simp [Fl.ntx]
  | .text x, v, h => by unfold KeyM at h; exact h.elim
  | .tup ks, v, h => by
    unfold KeyM at h
    obtain ⟨a, vs, e, h1, h2⟩ := h
    unfold Fl.ntx
    exact KeysM.ntxs h2
theorem KeysM.ntxs {K : PySem.W.Frag} {M : Hp} : ∀ {ks : List NestedKey} {vs : List V}, KeysM K M ks vs → ntxs ks = true
  | [], vs, h => by simp [Fl.ntxs]
  | k :: ks, vs, h => by
    unfold KeysM at h
    obtain ⟨v, r, e, h1, h2⟩ := h
    unfold Fl.ntxs
    rw [KeyM.ntx h1, KeysM.ntxs h2]; rfl
end
mutual
/-- the hash of a key without texts -/
def hsh : NestedKey → Int
  | .none => reduceHash 0xFCA86420
  | .num i => hashInt i
  | .text _ => 0
  | .tup ks => reduceHash (Builtin.Tuple.tupleHashOf (hshs ks))
def hshs : List NestedKey → List Int
  | [] => []
  | k :: ks => hsh k :: hshs ks
end
mutual
theorem hsh_eq (w : World) : ∀ k : NestedKey, ntx k = true → NestedKey.hash w k = hsh k
  | .none, _ => by simp [NestedKey.hash, hsh]
  | .num i, _ => by simp [NestedKey.hash, hsh]
  | .text x, h => by simp [ntx] at h
  | .tup ks, h => by
    unfold ntx at h
    unfold NestedKey.hash hsh
    rw [hshs_eq w ks h]
theorem hshs_eq (w : World) : ∀ ks : List NestedKey, ntxs ks = true → NestedKey.hashes w ks = hshs ks
  | [], _ => by simp [NestedKey.hashes, hshs]
  | k :: ks, h => by
    unfold ntxs at h
    simp only [Bool.and_eq_true] at h
    unfold NestedKey.hashes hshs
    rw [hsh_eq w k h.1, hshs_eq w ks h.2]
end
abbrev Ent := NestedKey × Addr × Value
def ent (x : Ent) : DictEntry := ⟨hsh x.1, .ref x.2.1, x.2.2⟩
/-- a dict at a with these entries -/
def dicO (a : Addr) (xs : List Ent) : HO := .ext fun h => ∃ o es ep, h.get? a = some o ∧ o.ExactDict ∧ o.data = .dict es ep ∧ es.toList = xs.map ent
structure Ents (K : PySem.W.Frag) (M : Hp) (ι : List Addr) (kvs : List (NestedKey × D)) (xs : List Ent) (vs : List V) : Prop where
  keys : xs.map (·.1) = kvs.map (·.1)
  nd : (kvs.map (·.1)).Nodup
  key : ∀ x ∈ xs, KeyM K M x.1 (.ref x.2.1) ∧ x.1.depth ≤ 8
  vals : Vals vs (xs.map (·.2.2))
  reps : Reps K M ι (kvs.map (·.2)) vs
theorem Ents.mono {K : PySem.W.Frag} {M M' : Hp} {ι ι' : List Addr} {kvs : List (NestedKey × D)} {xs : List Ent} {vs : List V} (h : Ents K M ι kvs xs vs) (m : Ex M M') (i : ∀ (k : Nat) (a : Addr), ι[k]? = some a → ι'[k]? = some a) : Ents K M' ι' kvs xs vs :=
  ⟨h.keys, h.nd, fun x hx => ⟨(h.key x hx).1.mono m, (h.key x hx).2⟩, h.vals, h.reps.mono m i⟩
/-- classes by number: name, attributes in the order in which they are set -/
def cname : Nat → Str
  | 0 => "Table"
  | 1 => "Days"
  | _ => "Log"
def fnames : Nat → List Str
  | 0 => ["letters", "asked", "ways"]
  | 1 => ["row", "works"]
  | _ => ["days", "held", "letters", "earlier"]
/-! ### the state -/
def ObOk (K : PySem.W.Frag) (M : Hp) (ι : List Addr) (H : Hp) (a : Addr) : SO → Prop
  | .dead => H a ≠ none
  | .lst ds => M a = none ∧ ∃ vs, H a = some (.lst vs) ∧ Reps K M ι ds vs
  | .ins c ds => M a = none ∧ ∃ dx vs, H a = some (.ins (He.ga K (cname c)) dx ((fnames c).zip vs)) ∧ Reps K M ι ds vs
  | .dic kvs => M a = none ∧ (a == sysModules) = false ∧ ∃ xs vs, H a = some (dicO a xs) ∧ Ents K M ι kvs xs vs
structure Conc (K : PySem.W.Frag) (M : Hp) (ι : List Addr) (s : Sto) (H : Hp) : Prop where
  sub : Ex M H
  len : ι.length = s.length
  nd : ι.Nodup
  obs : ∀ (k : Nat) (a : Addr) (o : SO), ι[k]? = some a → s[k]? = some o → ObOk K M ι H a o
/-- from one state to a later one -/
structure Step (M : Hp) (ι : List Addr) (H : Hp) (M' : Hp) (ι' : List Addr) (H' : Hp) : Prop where
  mm : Ex M M'
  ii : ∀ (k : Nat) (a : Addr), ι[k]? = some a → ι'[k]? = some a
  fr : ∀ a o, H a = some o → a ∉ ι → H' a = some o
  im : ∀ a, a ∈ ι' → a ∈ ι ∨ H a = none
  mn : ∀ a, M' a ≠ none → M a ≠ none ∨ a ∈ ι ∨ H a = none
theorem Step.refl {M : Hp} {ι : List Addr} {H : Hp} : Step M ι H M ι H := ⟨Ex.refl M, fun _ _ h => h, fun _ _ h _ => h, fun _ h => .inl h, fun _ h => .inl h⟩
theorem Step.trans {M M1 M2 : Hp} {ι ι1 ι2 : List Addr} {H H1 H2 : Hp} (a : Step M ι H M1 ι1 H1) (b : Step M1 ι1 H1 M2 ι2 H2) : Step M ι H M2 ι2 H2 := by
  have key : ∀ x, x ∉ ι → H1 x = none → H x = none := fun x h e => by
    cases q : H x with
    | none => rfl
    | some o => rw [a.fr x o q h] at e; cases e
  refine ⟨Ex.trans a.mm b.mm, fun k x h => b.ii k x (a.ii k x h), fun x o h n => b.fr x o (a.fr x o h n) fun z => ?_, fun x h => ?_, fun x h => ?_⟩
  · rcases a.im x z with w | w
    · exact n w
    · rw [h] at w; cases w
  · by_cases z : x ∈ ι
    · exact .inl z
    · rcases b.im x h with w | w
      · exact a.im x w
      · exact .inr (key x z w)
  · by_cases z : x ∈ ι
    · exact .inr (.inl z)
    · rcases b.mn x h with w | w | w
      · exact a.mn x w
      · exact (a.im x w).elim (fun q => .inr (.inl q)) fun q => .inr (.inr q)
      · exact .inr (.inr (key x z w))
theorem Rep.step {K : PySem.W.Frag} {M M' : Hp} {ι ι' : List Addr} {H H' : Hp} {d : D} {v : V} (t : Step M ι H M' ι' H') (h : Rep K M ι d v) : Rep K M' ι' d v := h.mono t.mm t.ii
theorem RepF.step {K : PySem.W.Frag} {M M' : Hp} {ι ι' : List Addr} {H H' : Hp} {d : D} {v : V} (t : Step M ι H M' ι' H') (h : RepF K M d v) : RepF K M' d v := h.mono t.mm
theorem RepL.step {K : PySem.W.Frag} {M M' : Hp} {ι ι' : List Addr} {H H' : Hp} {d : List D} {v : List V} (t : Step M ι H M' ι' H') (h : RepL K M d v) : RepL K M' d v := h.mono t.mm
theorem Conc.at {K : PySem.W.Frag} {M : Hp} {ι : List Addr} {s : Sto} {H : Hp} (C : Conc K M ι s H) {k : Nat} {o : SO} (h : s[k]? = some o) : ∃ a, ι[k]? = some a ∧ ObOk K M ι H a o := by
  have hk : k < ι.length := by rw [C.len]; exact (List.getElem?_eq_some_iff.mp h).1
  exact ⟨ι[k], List.getElem?_eq_getElem hk, C.obs k _ o (List.getElem?_eq_getElem hk) h⟩
theorem Conc.there {K : PySem.W.Frag} {M : Hp} {ι : List Addr} {s : Sto} {H : Hp} (C : Conc K M ι s H) {a : Addr} (h : a ∈ ι) : H a ≠ none := by
  obtain ⟨k, hk, rfl⟩ := List.getElem_of_mem h
  have hs : k < s.length := by rw [← C.len]; exact hk
  have q := C.obs k _ _ (List.getElem?_eq_getElem hk) (List.getElem?_eq_getElem hs)
  revert q
  cases s[k] with
  | dead => exact fun q => q
  | lst ds => rintro ⟨_, vs, q, _⟩; rw [q]; simp
  | ins c ds => rintro ⟨_, dx, vs, q, _⟩; rw [q]; simp
  | dic kvs => rintro ⟨_, _, xs, vs, q, _⟩; rw [q]; simp
theorem Conc.fresh {K : PySem.W.Frag} {M : Hp} {ι : List Addr} {s : Sto} {H : Hp} (C : Conc K M ι s H) {p : Addr} (h : H p = none) : M p = none ∧ p ∉ ι := by
  constructor
  · cases q : M p with
    | none => rfl
    | some o => rw [C.sub p o q] at h; cases h
  · exact fun z => C.there z h
/-- an object kept when the heap changes elsewhere -/
theorem ObOk.keep {K : PySem.W.Frag} {M M' : Hp} {ι ι' : List Addr} {H H' : Hp} {a : Addr} {o : SO} (h : ObOk K M ι H a o) (m : Ex M M') (i : ∀ (k : Nat) (a : Addr), ι[k]? = some a → ι'[k]? = some a) (e : ∀ u, H a = some u → H' a = some u) (n : M a = none → M' a = none) : ObOk K M' ι' H' a o := by
  cases o with
  | dead =>
    show H' a ≠ none
    have h' : H a ≠ none := h
    cases q : H a with
    | none => exact absurd q h'
    | some u => rw [e u q]; simp
  | lst ds =>
    obtain ⟨h1, vs, h2, h3⟩ := h
    exact ⟨n h1, vs, e _ h2, h3.mono m i⟩
  | ins c ds =>
    obtain ⟨h1, dx, vs, h2, h3⟩ := h
    exact ⟨n h1, dx, vs, e _ h2, h3.mono m i⟩
  | dic kvs =>
    obtain ⟨h1, h0, xs, vs, h2, h3⟩ := h
    exact ⟨n h1, h0, xs, vs, e _ h2, h3.mono m i⟩
/-- something new that stands for good -/
theorem Conc.laid {K : PySem.W.Frag} {M : Hp} {ι : List Addr} {s : Sto} {H : Hp} (C : Conc K M ι s H) {p : Addr} {o : HO} (h : H p = none) : Conc K (upd M p o) ι s (upd H p o) ∧ Step M ι H (upd M p o) ι (upd H p o) := by
  obtain ⟨hM, hι⟩ := C.fresh h
  constructor
  · refine ⟨fun a u e => ?_, C.len, C.nd, fun k a u e1 e2 => ?_⟩
    · by_cases q : a = p
      · subst q; rw [upd_same] at e ⊢; exact e
      · rw [upd_ne q] at e ⊢; exact C.sub a u e
    · have ne : a ≠ p := fun z => hι (z ▸ List.mem_of_getElem? e1)
      exact (C.obs k a u e1 e2).keep (Ex.new hM) (fun _ _ q => q) (fun u q => by rw [upd_ne ne]; exact q) (fun q => by rw [upd_ne ne]; exact q)
  · refine ⟨Ex.new hM, fun _ _ h => h, fun a u e _ => by rw [upd_ne (ne_of_none e h)]; exact e, fun _ h => .inl h, fun a e => ?_⟩
    by_cases q : a = p
    · subst q; exact .inr (.inr h)
    · rw [upd_ne q] at e; exact .inl e
/-- something new on the way: it belongs to nobody yet -/
theorem Conc.over {K : PySem.W.Frag} {M : Hp} {ι : List Addr} {s : Sto} {H : Hp} (C : Conc K M ι s H) {p : Addr} {o : HO} (h : H p = none) : Conc K M ι s (upd H p o) ∧ Step M ι H M ι (upd H p o) := by
  obtain ⟨hM, hι⟩ := C.fresh h
  constructor
  · refine ⟨Ex.trans C.sub (Ex.new h), C.len, C.nd, fun k a u e1 e2 => ?_⟩
    have ne : a ≠ p := fun z => hι (z ▸ List.mem_of_getElem? e1)
    exact (C.obs k a u e1 e2).keep (Ex.refl M) (fun _ _ q => q) (fun u q => by rw [upd_ne ne]; exact q) (fun q => q)
  · exact ⟨Ex.refl M, fun _ _ h => h, fun a u e _ => by rw [upd_ne (ne_of_none e h)]; exact e, fun _ h => .inl h, fun a e => .inl e⟩
/-- what belongs to nobody changes -/
theorem Conc.own {K : PySem.W.Frag} {M : Hp} {ι : List Addr} {s : Sto} {H : Hp} (C : Conc K M ι s H) {p : Addr} {o : HO} (hM : M p = none) (hι : p ∉ ι) : Conc K M ι s (upd H p o) := by
  refine ⟨fun a u e => ?_, C.len, C.nd, fun k a u e1 e2 => ?_⟩
  · by_cases q : a = p
    · subst q; rw [hM] at e; cases e
    · rw [upd_ne q]; exact C.sub a u e
  · have ne : a ≠ p := fun z => hι (z ▸ List.mem_of_getElem? e1)
    exact (C.obs k a u e1 e2).keep (Ex.refl M) (fun _ _ q => q) (fun u q => by rw [upd_ne ne]; exact q) (fun q => q)
/-- what belongs to nobody now stands for good -/
theorem Conc.freeze {K : PySem.W.Frag} {M : Hp} {ι : List Addr} {s : Sto} {H : Hp} (C : Conc K M ι s H) {p : Addr} {o : HO} (hM : M p = none) (hι : p ∉ ι) (hH : H p = some o) : Conc K (upd M p o) ι s H := by
  refine ⟨fun a u e => ?_, C.len, C.nd, fun k a u e1 e2 => ?_⟩
  · by_cases q : a = p
    · subst q; rw [upd_same] at e; cases e; exact hH
    · rw [upd_ne q] at e; exact C.sub a u e
  · have ne : a ≠ p := fun z => hι (z ▸ List.mem_of_getElem? e1)
    exact (C.obs k a u e1 e2).keep (Ex.new hM) (fun _ _ q => q) (fun u q => q) (fun q => by rw [upd_ne ne]; exact q)
theorem ii_app {ι : List Addr} {p : Addr} : ∀ (k : Nat) (a : Addr), ι[k]? = some a → (ι ++ [p])[k]? = some a := fun k a h => by
    rw [List.getElem?_append_left (List.getElem?_eq_some_iff.mp h).1]; exact h
/-- what belongs to nobody joins the store -/
theorem Conc.join {K : PySem.W.Frag} {M : Hp} {ι : List Addr} {s : Sto} {H : Hp} (C : Conc K M ι s H) {p : Addr} {u : SO} (hι : p ∉ ι) (hu : ObOk K M (ι ++ [p]) H p u) : Conc K M (ι ++ [p]) (s ++ [u]) H := by
  refine ⟨C.sub, by simp [C.len], ?_, fun k a o e1 e2 => ?_⟩
  · rw [List.nodup_append]
    refine ⟨C.nd, by simp, fun a ha b hb => ?_⟩
    obtain rfl : b = p := by simpa using hb
    exact fun z => hι (z ▸ ha)
  · by_cases hk : k < s.length
    · rw [List.getElem?_append_left hk] at e2
      rw [List.getElem?_append_left (by rw [C.len]; exact hk)] at e1
      exact (C.obs k a o e1 e2).keep (Ex.refl M) ii_app (fun _ h => h) (fun h => h)
    · have hk2 : k = s.length := by
        have := (List.getElem?_eq_some_iff.mp e2).1
        simp at this; omega
      subst hk2
      simp at e2
      rw [← C.len] at e1
      simp at e1
      subst e1 e2
      exact hu
/-- a thing of the store changes -/
theorem Conc.put {K : PySem.W.Frag} {M : Hp} {ι : List Addr} {s : Sto} {H : Hp} (C : Conc K M ι s H) {k : Nat} {a : Addr} {o : HO} {u : SO} (hk : ι[k]? = some a) (hM : M a = none) (hu : ObOk K M ι (upd H a o) a u) : Conc K M ι (s.set k u) (upd H a o) ∧ Step M ι H M ι (upd H a o) := by
  constructor
  · refine ⟨fun b v e => ?_, by rw [List.length_set]; exact C.len, C.nd, fun j b v e1 e2 => ?_⟩
    · by_cases q : b = a
      · subst q; rw [hM] at e; cases e
      · rw [upd_ne q]; exact C.sub b v e
    · by_cases hj : j = k
      · subst hj
        rw [hk] at e1; cases e1
        have hl : j < s.length := by have := (List.getElem?_eq_some_iff.mp hk).1; rw [C.len] at this; exact this
        rw [List.getElem?_set_self hl] at e2; cases e2
        exact hu
      · rw [List.getElem?_set_ne (Ne.symm hj)] at e2
        have ne : b ≠ a := by
          rintro rfl
          obtain ⟨h1, q1⟩ := List.getElem?_eq_some_iff.mp e1
          obtain ⟨h2, q2⟩ := List.getElem?_eq_some_iff.mp hk
          exact hj ((List.getElem_inj C.nd).mp (q1.trans q2.symm))
        exact (C.obs j b v e1 e2).keep (Ex.refl M) (fun _ _ q => q) (fun u q => by rw [upd_ne ne]; exact q) (fun q => q)
  · refine ⟨Ex.refl M, fun _ _ h => h, fun b v e n => ?_, fun _ h => .inl h, fun b e => .inl e⟩
    have ne : b ≠ a := fun z => n (z ▸ List.mem_of_getElem? hk)
    rw [upd_ne ne]; exact e
/-! ### the store's last things forgotten -/
/-- no thing from n on -/
def low (n : Nat) : D → Bool
  | .ob k => decide (k < n)
  | _ => true
def lows (n : Nat) (ds : List D) : Bool := ds.all (low n)
def lowO (n : Nat) : SO → Bool
  | .lst ds => lows n ds
  | .dead => true
  | .ins _ ds => lows n ds
  | .dic kvs => lows n (kvs.map (·.2))
/-- the first things hold no later ones, or are as they were -/
def Chk (s s' : Sto) : Prop := ∀ k < s.length, s'[k]? = s[k]? ∨ ∃ o, s'[k]? = some o ∧ lowO s.length o = true
theorem Rep.low {K : PySem.W.Frag} {M : Hp} {ι : List Addr} {n : Nat} {d : D} {v : V} (h : Rep K M ι d v) (l : low n d = true) : Rep K M (ι.take n) d v := by
  cases d with
  | ob k =>
    obtain ⟨a, e, h1⟩ := h
    simp only [Fl.low, decide_eq_true_eq] at l
    exact ⟨a, e, by rw [List.getElem?_take_of_lt l]; exact h1⟩
  | _ => exact h
theorem Reps.low {K : PySem.W.Frag} {M : Hp} {ι : List Addr} {n : Nat} {ds : List D} {vs : List V} (h : Reps K M ι ds vs) (l : lows n ds = true) : Reps K M (ι.take n) ds vs := by
  induction h with
  | nil => exact .nil
  | cons a _ ih =>
    simp [lows] at l
    exact .cons (a.low l.1) (ih (by simp [lows]; exact l.2))
/-- what stands there holds only what stood there -/
theorem Conc.lows {K : PySem.W.Frag} {M : Hp} {ι : List Addr} {s : Sto} {H : Hp} (C : Conc K M ι s H) {k : Nat} {o : SO} (h : s[k]? = some o) : lowO s.length o = true := by
  obtain ⟨a, h1, h2⟩ := C.at h
  have key : ∀ {ds : List D} {vs : List V}, Reps K M ι ds vs → Fl.lows s.length ds = true := by
    intro ds vs r
    induction r with
    | nil => rfl
    | @cons d ds v vs a _ ih =>
      have hd : low s.length d = true := by
        cases d with
        | ob k =>
          obtain ⟨b, _, h3⟩ := a
          have := (List.getElem?_eq_some_iff.mp h3).1
          rw [C.len] at this
          simp only [low, decide_eq_true_eq]; exact this
        | _ => rfl
      simp only [Fl.lows, List.all_cons, hd, Bool.true_and]
      exact ih
  cases o with
  | dead => rfl
  | lst ds =>
    obtain ⟨_, vs, _, r⟩ := h2
    exact key r
  | ins c ds =>
    obtain ⟨_, dx, vs, _, r⟩ := h2
    exact key r
  | dic kvs =>
    obtain ⟨_, _, xs, vs, _, r⟩ := h2
    exact key r.reps
/-- s': later than s; its last things are forgotten, those of them that are lists stand for good -/
theorem Conc.back {K : PySem.W.Frag} {M M' : Hp} {ι ι' : List Addr} {s s' : Sto} {H H' : Hp} (C : Conc K M ι s H) (t : Step M ι H M' ι' H') (C' : Conc K M' ι' s' H') (c : Chk s s') :
    ∃ M'', Conc K M'' (ι'.take s.length) (s'.take s.length) H' ∧ Step M ι H M'' (ι'.take s.length) H' ∧ Ex M' M'' ∧ ∀ (k : Nat) (a : Addr) (ds : List D), s.length ≤ k → ι'[k]? = some a → s'[k]? = some (.lst ds) → M'' a = H' a := by
  classical
  let M'' : Hp := fun a => if M' a ≠ none then M' a else if (∃ (k : Nat) (ds : List D), s.length ≤ k ∧ ι'[k]? = some a ∧ s'[k]? = some (.lst ds)) then H' a else none
  have ex : Ex M' M'' := fun a o e => by
    show (if M' a ≠ none then M' a else _) = some o
    rw [if_pos (by rw [e]; simp)]; exact e
  have hnew : ∀ (k : Nat) (a : Addr) (ds : List D), s.length ≤ k → ι'[k]? = some a → s'[k]? = some (.lst ds) → M'' a = H' a := fun k a ds h1 h2 h3 => by
    obtain ⟨hM, vs, hH, _⟩ := C'.obs k a _ h2 h3
    show (if M' a ≠ none then M' a else _) = H' a
    rw [if_neg (by rw [hM]; simp), if_pos ⟨k, ds, h1, h2, h3⟩]
  have uniq : ∀ (j k : Nat) (a : Addr), ι'[j]? = some a → ι'[k]? = some a → j = k := fun j k a h1 h2 => by
    obtain ⟨q1, w1⟩ := List.getElem?_eq_some_iff.mp h1
    obtain ⟨q2, w2⟩ := List.getElem?_eq_some_iff.mp h2
    exact (List.getElem_inj C'.nd).mp (w1.trans w2.symm)
  refine ⟨M'', ⟨fun a o e => ?_, by simp [C'.len], List.Nodup.sublist (List.take_sublist _ ι') C'.nd, fun k a o e1 e2 => ?_⟩, ⟨Ex.trans t.mm ex, fun k a h => ?_, t.fr, fun a h => t.im a (List.mem_of_mem_take h), fun a h => ?_⟩, ex, hnew⟩
  · have e' : (if M' a ≠ none then M' a else if (∃ (k : Nat) (ds : List D), s.length ≤ k ∧ ι'[k]? = some a ∧ s'[k]? = some (.lst ds)) then H' a else none) = some o := e
    split at e'
    · exact C'.sub a o e'
    · split at e'
      · exact e'
      · cases e'
  · have hk : k < s.length := by
      have := (List.getElem?_eq_some_iff.mp e1).1
      simp at this; omega
    rw [List.getElem?_take_of_lt hk] at e1 e2
    have ob := C'.obs k a o e1 e2
    have hl : lowO s.length o = true := by
      rcases c k hk with q | ⟨o', q, l⟩
      · rw [e2] at q
        exact C.lows q.symm
      · rw [e2] at q; cases q; exact l
    have nn : M' a = none → M'' a = none := fun h1 => by
      show (if M' a ≠ none then M' a else _) = none
      rw [if_neg (by rw [h1]; simp), if_neg]
      rintro ⟨j, ds', q1, q2, _⟩
      have := uniq j k a q2 e1
      omega
    cases o with
    | dead => exact ob
    | lst ds =>
      obtain ⟨h1, vs, h2, h3⟩ := ob
      exact ⟨nn h1, vs, h2, (h3.low hl).mono ex fun _ _ q => q⟩
    | ins c ds =>
      obtain ⟨h1, dx, vs, h2, h3⟩ := ob
      exact ⟨nn h1, dx, vs, h2, (h3.low hl).mono ex fun _ _ q => q⟩
    | dic kvs =>
      obtain ⟨h1, h0, xs, vs, h2, h3⟩ := ob
      exact ⟨nn h1, h0, xs, vs, h2, ⟨h3.keys, h3.nd, fun x hx => ⟨(h3.key x hx).1.mono ex, (h3.key x hx).2⟩, h3.vals, (h3.reps.low hl).mono ex fun _ _ q => q⟩⟩
  · have hk : k < s.length := by rw [← C.len]; exact (List.getElem?_eq_some_iff.mp h).1
    rw [List.getElem?_take_of_lt hk]
    exact t.ii k a h
  · have e' : (if M' a ≠ none then M' a else if (∃ (k : Nat) (ds : List D), s.length ≤ k ∧ ι'[k]? = some a ∧ s'[k]? = some (.lst ds)) then H' a else none) ≠ none := h
    split at e'
    · rename_i q; exact t.mn a q
    · split at e'
      · rename_i q
        obtain ⟨k, ds, _, q2, _⟩ := q
        exact (t.im a (List.mem_of_getElem? q2)).elim (fun z => .inr (.inl z)) fun z => .inr (.inr z)
      · exact absurd rfl e'
end Fl
set_option Elab.async false
set_option linter.all false
set_option maxRecDepth 100000
namespace Fl
open PySem PySem.Spec PyProof.Rows L2
/-! ### what comes of it -/
inductive O (α : Type) where
  | stuck | val (a : α) (s : Sto) | exc (c : Nat) (s : Sto)
def O.bind {α β : Type} : O α → (α → Sto → O β) → O β
  | .stuck, _ => .stuck
  | .val a s, f => f a s
  | .exc c s, _ => .exc c s
@[simp] theorem O.bind_stuck {α β : Type} {f : α → Sto → O β} : (O.stuck : O α).bind f = .stuck := rfl
@[simp] theorem O.bind_val {α β : Type} {f : α → Sto → O β} {a : α} {s : Sto} : (O.val a s).bind f = f a s := rfl
@[simp] theorem O.bind_exc {α β : Type} {f : α → Sto → O β} {c : Nat} {s : Sto} : (O.exc c s : O α).bind f = .exc c s := rfl
inductive OS where
  | stuck | nx (δ : Sl) (s : Sto) | bk (δ : Sl) (s : Sto) | ct (δ : Sl) (s : Sto) | rt (d : D) (s : Sto) | exc (c : Nat) (δ : Sl) (s : Sto)
def O.go {α : Type} (o : O α) (δ : Sl) (k : α → Sto → OS) : OS := match o with
  | .stuck => .stuck
  | .val a s => k a s
  | .exc c s => .exc c δ s
@[simp] theorem O.go_stuck {α : Type} {δ : Sl} {f : α → Sto → OS} : (O.stuck : O α).go δ f = .stuck := rfl
@[simp] theorem O.go_val {α : Type} {δ : Sl} {f : α → Sto → OS} {a : α} {s : Sto} : (O.val a s).go δ f = f a s := rfl
@[simp] theorem O.go_exc {α : Type} {δ : Sl} {f : α → Sto → OS} {c : Nat} {s : Sto} : (O.exc c s : O α).go δ f = .exc c δ s := rfl
def OS.then (o : OS) (k : Sl → Sto → OS) : OS := match o with
  | .nx δ s => k δ s
  | o => o
@[simp] theorem OS.then_nx {k : Sl → Sto → OS} {δ : Sl} {s : Sto} : (OS.nx δ s).then k = k δ s := rfl
@[simp] theorem OS.then_stuck {k : Sl → Sto → OS} : OS.stuck.then k = .stuck := rfl
@[simp] theorem OS.then_bk {k : Sl → Sto → OS} {δ : Sl} {s : Sto} : (OS.bk δ s).then k = .bk δ s := rfl
@[simp] theorem OS.then_ct {k : Sl → Sto → OS} {δ : Sl} {s : Sto} : (OS.ct δ s).then k = .ct δ s := rfl
@[simp] theorem OS.then_rt {k : Sl → Sto → OS} {d : D} {s : Sto} : (OS.rt d s).then k = .rt d s := rfl
@[simp] theorem OS.then_exc {k : Sl → Sto → OS} {c : Nat} {δ : Sl} {s : Sto} : (OS.exc c δ s).then k = .exc c δ s := rfl
abbrev EF := Sl → Sto → O D
abbrev AF := Sl → Sto → O (List D)
abbrev BF := Sl → Sto → O Bool
abbrev SF := Sl → Sto → OS
abbrev GF := D → Sl → Sto → O Sl
abbrev FF := List D → Sto → O D
/-! ### what a reading owes -/
section
variable {K : PySem.W.Frag} {α β γ ζ : Type} {cl : Nat → Value}
def RepS (K : PySem.W.Frag) (M : Hp) (ι : List Addr) (δ : Sl) (σ : L2.St) : Prop := σ.length = δ.length ∧ ∀ (i : Nat) (d : D), δ[i]? = some (some d) → ∃ v, σ[i]? = some (some v) ∧ Rep K M ι d v
theorem RepS.step {M M' : Hp} {ι ι' : List Addr} {H H' : Hp} {δ : Sl} {σ : L2.St} (t : Step M ι H M' ι' H') (h : RepS K M ι δ σ) : RepS K M' ι' δ σ := ⟨h.1, fun i d e => by
  obtain ⟨v, h1, h2⟩ := h.2 i d e
  exact ⟨v, h1, h2.step t⟩⟩
theorem RepS.set {M : Hp} {ι : List Addr} {δ : Sl} {σ : L2.St} {d : D} {v : V} (h : RepS K M ι δ σ) (r : Rep K M ι d v) (i : Nat) : RepS K M ι (δ.set i (some d)) (σ.set i (some v)) := by
  refine ⟨by simp [h.1], fun j e q => ?_⟩
  by_cases hj : j = i
  · subst hj
    by_cases hl : j < δ.length
    · rw [List.getElem?_set_self hl] at q; cases q
      exact ⟨v, List.getElem?_set_self (by rw [h.1]; exact hl), r⟩
    · rw [List.getElem?_eq_none (by simpa using hl)] at q; cases q
  · rw [List.getElem?_set_ne (Ne.symm hj)] at q ⊢
    exact h.2 j e q
abbrev Car (α β : Type) := Hp → List Addr → α → β → Prop
def Post (K : PySem.W.Frag) (C : Car α β) (Wx : Nat → Hp → Prop) (M : Hp) (ι : List Addr) (H : Hp) : O α → (β → Hp → Prop) → Prop
  | .stuck, _ => False
  | .val a s, Q => ∀ M' ι' H' b, Step M ι H M' ι' H' → Conc K M' ι' s H' → C M' ι' a b → Q b H'
  | .exc c s, _ => ∀ M' ι' H', Step M ι H M' ι' H' → Conc K M' ι' s H' → Wx c H'
theorem Post.now {C : Car α β} {Wx : Nat → Hp → Prop} {M : Hp} {ι : List Addr} {H : Hp} {a : α} {b : β} {s : Sto} {Q : β → Hp → Prop} (h : Post K C Wx M ι H (.val a s) Q) (c : Conc K M ι s H) (r : C M ι a b) : Q b H := h M ι H b Step.refl c r
theorem Post.mono {C : Car α β} {Wx : Nat → Hp → Prop} {M : Hp} {ι : List Addr} {H : Hp} {o : O α} {Q Q' : β → Hp → Prop} (h : Post K C Wx M ι H o Q) (q : ∀ b H', Q b H' → Q' b H') : Post K C Wx M ι H o Q' := by
  cases o with
  | stuck => exact h
  | val a s => exact fun M' ι' H' b t c r => q b H' (h M' ι' H' b t c r)
  | exc c s => exact h
theorem Post.step {C : Car α β} {Wx : Nat → Hp → Prop} {M M1 : Hp} {ι ι1 : List Addr} {H H1 : Hp} {o : O α} {Q : β → Hp → Prop} (h : Post K C Wx M ι H o Q) (t : Step M ι H M1 ι1 H1) : Post K C Wx M1 ι1 H1 o Q := by
  cases o with
  | stuck => exact h
  | val a s => exact fun M' ι' H' b t' c r => h M' ι' H' b (t.trans t') c r
  | exc c s => exact fun M' ι' H' t' q => h M' ι' H' (t.trans t') q
/-- what stands behind the first of two -/
structure Mid (K : PySem.W.Frag) (C : Car α β) (C2 : Car γ ζ) (Wx : Nat → Hp → Prop) (M : Hp) (ι : List Addr) (H : Hp) (k : α → Sto → O γ) (Q : ζ → Hp → Prop) (b : β) (H' : Hp) : Prop where
  ex : ∃ M' ι' a s', Step M ι H M' ι' H' ∧ Conc K M' ι' s' H' ∧ C M' ι' a b ∧ Post K C2 Wx M' ι' H' (k a s') Q
theorem Post.bind (C : Car α β) {C2 : Car γ ζ} {Wx : Nat → Hp → Prop} {M : Hp} {ι : List Addr} {H : Hp} {o : O α} {k : α → Sto → O γ} {Q : ζ → Hp → Prop} (h : Post K C2 Wx M ι H (o.bind k) Q) : Post K C Wx M ι H o (Mid K C C2 Wx M ι H k Q) := by
  cases o with
  | stuck => exact h
  | val a s => exact fun M' ι' H' b t c r => ⟨M', ι', a, s, t, c, r, Post.step h t⟩
  | exc c s => exact h
abbrev CD (K : PySem.W.Frag) : Car D V := Rep K
abbrev CL (K : PySem.W.Frag) (f : D → V → Prop) : Car (List D) (List V) := fun _ _ _ _ => True
theorem Reps.step {M M' : Hp} {ι ι' : List Addr} {H H' : Hp} {ds : List D} {vs : List V} (t : Step M ι H M' ι' H') (h : Reps K M ι ds vs) : Reps K M' ι' ds vs := h.mono t.mm t.ii
abbrev CB : Car Bool Bool := fun _ _ a b => b = a
/-- the store's and the slots' data, and what f makes of them -/
def At (K : PySem.W.Frag) (C : Car α β) (Wx : Nat → Hp → Prop) (f : Sl → Sto → O α) (σ : L2.St) (H : Hp) (Q : β → Hp → Prop) : Prop :=
  ∃ M ι δ s, Conc K M ι s H ∧ RepS K M ι δ σ ∧ Post K C Wx M ι H (f δ s) Q
abbrev wx (cl : Nat → Value) (W : WX) (σ : L2.St) : Nat → Hp → Prop := fun c H => W (cl c) none σ H
def rdE (K : PySem.W.Frag) (cl : Nat → Value) (W : WX) (f : EF) : TE := fun σ H Q => At K (Rep K) (wx cl W σ) f σ H Q
def rdA (K : PySem.W.Frag) (cl : Nat → Value) (W : WX) (f : AF) : TA := fun σ H Q => At K (Reps K) (wx cl W σ) f σ H Q
def rdT (K : PySem.W.Frag) (cl : Nat → Value) (W : WX) (f : BF) : TT := fun σ H Q => At K CB (wx cl W σ) f σ H Q
def rdG (K : PySem.W.Frag) (g : GF) : TG := fun v σ H Q => ∃ M ι δ s d, Conc K M ι s H ∧ RepS K M ι δ σ ∧ Rep K M ι d v ∧ Post K (RepS K) (fun _ _ => False) M ι H (g d δ s) Q
def PostS (K : PySem.W.Frag) (cl : Nat → Value) (W : WX) (D : Ends) (M : Hp) (ι : List Addr) (H : Hp) : OS → Prop
  | .stuck => False
  | .nx δ s => ∀ M' ι' H' σ', Step M ι H M' ι' H' → Conc K M' ι' s H' → RepS K M' ι' δ σ' → D.nx σ' H'
  | .bk δ s => ∀ M' ι' H' σ', Step M ι H M' ι' H' → Conc K M' ι' s H' → RepS K M' ι' δ σ' → D.bk σ' H'
  | .ct δ s => ∀ M' ι' H' σ', Step M ι H M' ι' H' → Conc K M' ι' s H' → RepS K M' ι' δ σ' → D.ct σ' H'
  | .rt d s => ∀ M' ι' H' v, Step M ι H M' ι' H' → Conc K M' ι' s H' → Rep K M' ι' d v → D.rt v H'
  | .exc c δ s => ∀ M' ι' H' σ', Step M ι H M' ι' H' → Conc K M' ι' s H' → RepS K M' ι' δ σ' → W (cl c) none σ' H'
def rdS (K : PySem.W.Frag) (cl : Nat → Value) (W : WX) (f : SF) : TS := fun D σ H => ∃ M ι δ s, Conc K M ι s H ∧ RepS K M ι δ σ ∧ PostS K cl W D M ι H (f δ s)
theorem PostS.step {W : WX} {D : Ends} {M M1 : Hp} {ι ι1 : List Addr} {H H1 : Hp} {o : OS} (h : PostS K cl W D M ι H o) (t : Step M ι H M1 ι1 H1) : PostS K cl W D M1 ι1 H1 o := by
  cases o with
  | stuck => exact h
  | nx δ s => exact fun M' ι' H' σ' t' c r => h M' ι' H' σ' (t.trans t') c r
  | bk δ s => exact fun M' ι' H' σ' t' c r => h M' ι' H' σ' (t.trans t') c r
  | ct δ s => exact fun M' ι' H' σ' t' c r => h M' ι' H' σ' (t.trans t') c r
  | rt d s => exact fun M' ι' H' σ' t' c r => h M' ι' H' σ' (t.trans t') c r
  | exc c δ s => exact fun M' ι' H' σ' t' c r => h M' ι' H' σ' (t.trans t') c r
/-- a value, then a statement's rest -/
structure MidS (K : PySem.W.Frag) (cl : Nat → Value) (C : Car α β) (W : WX) (D : Ends) (M : Hp) (ι : List Addr) (H : Hp) (k : α → Sto → OS) (b : β) (H' : Hp) : Prop where
  ex : ∃ M' ι' a s', Step M ι H M' ι' H' ∧ Conc K M' ι' s' H' ∧ C M' ι' a b ∧ PostS K cl W D M' ι' H' (k a s')
theorem PostS.go (C : Car α β) {W : WX} {D : Ends} {M : Hp} {ι : List Addr} {H : Hp} {o : O α} {δ : Sl} {σ : L2.St} {k : α → Sto → OS} (S : RepS K M ι δ σ) (h : PostS K cl W D M ι H (o.go δ k)) : Post K C (wx cl W σ) M ι H o (MidS K cl C W D M ι H k) := by
  cases o with
  | stuck => exact h
  | val a s => exact fun M' ι' H' b t c r => ⟨M', ι', a, s, t, c, r, PostS.step h t⟩
  | exc c s => exact fun M' ι' H' t c => h M' ι' H' σ t c (S.step t)
end
/-! ### judgements -/
section
variable {X : Cx} {cl : Nat → Value} {W : WX}
abbrev JE (X : Cx) (cl : Nat → Value) (W : WX) (e : Expr) (f : EF) : Prop := PE X e (rdE X.K cl W f)
abbrev JA (X : Cx) (cl : Nat → Value) (W : WX) (es : List Expr) (f : AF) : Prop := PA X es (rdA X.K cl W f)
abbrev JT (X : Cx) (cl : Nat → Value) (W : WX) (e : Expr) (f : BF) : Prop := PT X e (rdT X.K cl W f)
abbrev JW (X : Cx) (cl : Nat → Value) (W : WX) (e : Expr) (f : BF) : Prop := PW X e (rdT X.K cl W f)
abbrev JG (X : Cx) (e : Expr) (g : GF) : Prop := PG X e (rdG X.K g)
abbrev JS (X : Cx) (cl : Nat → Value) (W : WX) (st : Stmt) (f : SF) : Prop := PS X st (rdS X.K cl W f)
abbrev JSs (X : Cx) (cl : Nat → Value) (W : WX) (st : List Stmt) (f : SF) : Prop := PSs X st (rdS X.K cl W f)
theorem _root_.L2.PE.imp {e : Expr} {t t' : TE} (h : PE X e t) (i : ∀ σ H Q, t' σ H Q → t σ H Q) : PE X e t' := ⟨fun pins s σ H Q I q => h.run pins s σ H Q I (i σ H Q q)⟩
theorem _root_.L2.PT.imp {e : Expr} {t t' : TT} (h : PT X e t) (i : ∀ σ H Q, t' σ H Q → t σ H Q) : PT X e t' := ⟨fun pins s σ H Q I q => h.run pins s σ H Q I (i σ H Q q)⟩
theorem _root_.L2.PW.imp {e : Expr} {t t' : TT} (h : PW X e t) (i : ∀ σ H Q, t' σ H Q → t σ H Q) : PW X e t' := ⟨fun wh pins s σ H Q I q => h.run wh pins s σ H Q I (i σ H Q q)⟩
theorem _root_.L2.PA.imp {e : List Expr} {t t' : TA} (h : PA X e t) (i : ∀ σ H Q, t' σ H Q → t σ H Q) : PA X e t' := ⟨fun pos pins s σ H Q I q => h.run pos pins s σ H Q I (i σ H Q q)⟩
theorem _root_.L2.PG.imp {e : Expr} {t t' : TG} (h : PG X e t) (i : ∀ v σ H Q, t' v σ H Q → t v σ H Q) : PG X e t' := ⟨fun pins s σ H v u Q I r q => h.run pins s σ H v u Q I r (i v σ H Q q)⟩
theorem _root_.L2.PS.imp {e : Stmt} {t t' : TS} (h : PS X e t) (i : ∀ D σ H, t' D σ H → t D σ H) : PS X e t' := ⟨fun pins s σ H D I q => h.run pins s σ H D I (i D σ H q)⟩
theorem _root_.L2.PSs.imp {e : List Stmt} {t t' : TS} (h : PSs X e t) (i : ∀ D σ H, t' D σ H → t D σ H) : PSs X e t' := ⟨fun pins s σ H D I q => h.run pins s σ H D I (i D σ H q)⟩
/-! ### names, constants -/
def varF (i : Nat) : EF := fun δ s => match δ[i]? with
  | some (some d) => .val d s
  | _ => .stuck
theorem je_var (i : Nat) {x : Str} {pos : Pos} (hN : X.N[i]? = some x := by rfl) (hv : Vis X.env.scope x := by first | exact Or.inl rfl | exact Or.inr (Or.inl rfl) | exact Or.inr (Or.inr rfl)) (hd : (x == ("__debug__" : Str)) = false := by decide)
    (hcd : (x == ("__classdict__" : Str)) = false := by decide) : JE X cl W (.Name x pos) (varF i) := (pe_var hN hv hd hcd).imp fun σ H Q h => by
  obtain ⟨M, ι, δ, s, C, S, P⟩ := h
  unfold varF at P
  split at P
  · rename_i d e
    obtain ⟨v, h1, h2⟩ := S.2 i d e
    exact ⟨v, h1, P.now C h2⟩
  · exact P.elim
def cF (d : D) : EF := fun _ s => .val d s
theorem je_cst {e : Expr} {v : V} {d : D} (h : PE X e (tC v)) (r : ∀ M ι, Rep X.K M ι d v) : JE X cl W e (cF d) := h.imp fun σ H Q h => by
  obtain ⟨M, ι, δ, s, C, S, P⟩ := h
  exact Post.now (C := Rep X.K) P C (r M ι)
theorem je_int {i : Int} {j pos} : JE X cl W (.Constant (.int i) j pos) (cF (.int i)) := je_cst pe_int fun _ _ => Rep.of (by unfold RepF; rfl)
theorem je_bl {b : Bool} {j pos} : JE X cl W (.Constant (.bool b) j pos) (cF (.bl b)) := je_cst pe_bl fun _ _ => Rep.of (by unfold RepF; rfl)
theorem je_non {j pos} : JE X cl W (.Constant .none j pos) (cF .non) := je_cst pe_non fun _ _ => Rep.of (by unfold RepF; rfl)
theorem je_str (cs : List Nat) {x : Str} {j pos} (h : x = ⟨cs.toArray⟩ := by decide +kernel) (h2 : okS cs = true := by decide) : JE X cl W (.Constant (.str x) j pos) (cF (.str cs)) := je_cst pe_str fun _ _ => Rep.of (by unfold RepF; exact ⟨by rw [h], h2⟩)
/-- a module's constant -/
theorem je_glob {x : Str} {d : D} {v : V} {u : Value} {pos : Pos} (hg : Gl X x) (hm : X.mg x = some u) (r : RelV v u) (hr : ∀ M ι, Rep X.K M ι d v) (hd : (x == ("__debug__" : Str)) = false := by decide) : JE X cl W (.Name x pos) (cF d) := je_cst (pe_glob hg hm r hd) hr
/-- a built-in class as a value -/
theorem je_ty {x : Str} {T : String} {pos : Pos} (hg : Gl X x) (hm : X.mg x = none) (hv : bootBuiltins x = some (.type T)) (hn : x ≠ "__name__" := by decide) (hd : (x == ("__debug__" : Str)) = false := by decide) : JE X cl W (.Name x pos) (cF (.ty T)) :=
  je_cst (pe_bltn (v := .ty T) hg hm hv rfl hn hd) fun _ _ => Rep.of (by unfold RepF; rfl)
/-! ### operations on values -/
abbrev Op1 := Sto → D → O D
abbrev Op2 := Sto → D → D → O D
def Ok2 (K : PySem.W.Frag) (r : R2) (g : Op2) : Prop := ∀ (Wx : Nat → Hp → Prop) (M : Hp) (ι : List Addr) (s : Sto) (H : Hp) (x y : D) (u v : V) (Q : VK), Conc K M ι s H → Rep K M ι x u → Rep K M ι y v → Post K (Rep K) Wx M ι H (g s x y) Q → r u v H Q
def Ok1 (K : PySem.W.Frag) (r : V → Hp → VK → Prop) (g : Op1) : Prop := ∀ (Wx : Nat → Hp → Prop) (M : Hp) (ι : List Addr) (s : Sto) (H : Hp) (x : D) (u : V) (Q : VK), Conc K M ι s H → Rep K M ι x u → Post K (Rep K) Wx M ι H (g s x) Q → r u H Q
def OkN (K : PySem.W.Frag) (r : List V → Hp → VK → Prop) (g : Sto → List D → O D) : Prop := ∀ (Wx : Nat → Hp → Prop) (M : Hp) (ι : List Addr) (s : Sto) (H : Hp) (xs : List D) (us : List V) (Q : VK), Conc K M ι s H → Reps K M ι xs us → Post K (Rep K) Wx M ι H (g s xs) Q → r us H Q
def bin (g : Op2) (fa fb : EF) : EF := fun δ s => (fa δ s).bind fun x s1 => (fb δ s1).bind fun y s2 => g s2 x y
def una (g : Op1) (fa : EF) : EF := fun δ s => (fa δ s).bind fun x s1 => g s1 x
def nil : AF := fun _ s => .val [] s
def con (fa : EF) (fr : AF) : AF := fun δ s => (fa δ s).bind fun x s1 => (fr δ s1).bind fun xs s2 => .val (x :: xs) s2
def fnB (g : Sto → List D → O D) (fa : AF) : EF := fun δ s => (fa δ s).bind fun xs s1 => g s1 xs
variable {a b e : Expr} {es : List Expr} {fa fb : EF} {fr : AF} {pos : Pos}
theorem At.bind {α β γ ζ : Type} {K : PySem.W.Frag} (C1 : Car α β) {C2 : Car γ ζ} {Wx : Nat → Hp → Prop} {f : Sl → Sto → O α} {k : Sl → α → Sto → O γ} {σ : L2.St} {H : Hp} {Q : ζ → Hp → Prop} (h : At K C2 Wx (fun δ s => (f δ s).bind (k δ)) σ H Q) :
    At K C1 Wx f σ H fun b H' => ∃ M ι δ s a, Conc K M ι s H' ∧ RepS K M ι δ σ ∧ C1 M ι a b ∧ Post K C2 Wx M ι H' (k δ a s) Q := by
  obtain ⟨M, ι, δ, s, C, S, P⟩ := h
  refine ⟨M, ι, δ, s, C, S, Post.mono (Post.bind C1 P) fun b H' m => ?_⟩
  obtain ⟨M', ι', a, s', t, C', r, P'⟩ := m.ex
  exact ⟨M', ι', δ, s', a, C', S.step t, r, P'⟩
theorem rd_bin {K : PySem.W.Frag} {r : R2} {g : Op2} (ok : Ok2 K r g) (σ : L2.St) (H : Hp) (Q : VK) (h : rdE K cl W (bin g fa fb) σ H Q) : tOp r (rdE K cl W fa) (rdE K cl W fb) σ H Q := by
  obtain ⟨M, ι, δ, s, C, S, P⟩ := h
  refine ⟨M, ι, δ, s, C, S, Post.mono (Post.bind (Rep K) P) fun u H1 m => ?_⟩
  obtain ⟨M1, ι1, x, s1, t1, C1, r1, P1⟩ := m.ex
  refine ⟨M1, ι1, δ, s1, C1, S.step t1, Post.mono (Post.bind (Rep K) P1) fun v H2 m => ?_⟩
  obtain ⟨M2, ι2, y, s2, t2, C2, r2, P2⟩ := m.ex
  exact ok _ M2 ι2 s2 H2 x y u v Q C2 (r1.step t2) r2 P2
theorem rd_una {K : PySem.W.Frag} {r : V → Hp → VK → Prop} {g : Op1} (ok : Ok1 K r g) (σ : L2.St) (H : Hp) (Q : VK) (h : rdE K cl W (una g fa) σ H Q) : tUn r (rdE K cl W fa) σ H Q := by
  obtain ⟨M, ι, δ, s, C, S, P⟩ := h
  refine ⟨M, ι, δ, s, C, S, Post.mono (Post.bind (Rep K) P) fun u H1 m => ?_⟩
  obtain ⟨M1, ι1, x, s1, t1, C1, r1, P1⟩ := m.ex
  exact ok _ M1 ι1 s1 H1 x u Q C1 r1 P1
theorem je_op {op : Operator} {r : R2} {g : Op2} (ho : OpR X (binaryOp op) r) (ok : Ok2 X.K r g) (ha : JE X cl W a fa) (hb : JE X cl W b fb) : JE X cl W (.BinOp a op b pos) (bin g fa fb) := (pe_op ho ha hb).imp (rd_bin ok)
theorem je_un {op : UnaryOp} {r : V → Hp → VK → Prop} {g : Op1} (ho : UnR X (unaryOp op) r) (ok : Ok1 X.K r g) (ha : JE X cl W a fa) : JE X cl W (.UnaryOp op a pos) (una g fa) := (pe_un ho ha).imp (rd_una ok)
theorem je_cmp {op : CmpOp} {r : R2} {g : Op2} (ho : OpR X (compareOp op) r) (ok : Ok2 X.K r g) (ha : JE X cl W a fa) (hb : JE X cl W b fb) (hm : behindInMarks op b = false) : JE X cl W (.Compare a [op] [b] pos) (bin g fa fb) := (pe_cmpR ho ha hb hm).imp (rd_bin ok)
theorem je_ix {r : R2} {g : Op2} (hr : IxR X r) (ok : Ok2 X.K r g) (ha : JE X cl W a fa) (hb : JE X cl W b fb) (hs : PlainIx b) : JE X cl W (.Subscript a b pos) (bin g fa fb) := (pe_ix hr ha hb hs).imp (rd_bin ok)
/-- a < b < c -/
def chain (g g' : Op2) (fa fb fc : EF) : EF := fun δ s => (fa δ s).bind fun x s1 => (fb δ s1).bind fun y s2 => (g s2 x y).bind fun z s3 => match z with
  | .bl true => (fc δ s3).bind fun w s4 => g' s4 y w
  | .bl false => .val (.bl false) s3
  | _ => .stuck
theorem rd_chain {K : PySem.W.Frag} {fc : EF} {r r' : R2} {g g' : Op2} (ok : Ok2 K r g) (ok' : Ok2 K r' g') (σ : L2.St) (H : Hp) (Q : VK) (h : rdE K cl W (chain g g' fa fb fc) σ H Q) : tChain r r' (rdE K cl W fa) (rdE K cl W fb) (rdE K cl W fc) σ H Q := by
  obtain ⟨M, ι, δ, s, C, S, P⟩ := h
  refine ⟨M, ι, δ, s, C, S, Post.mono (Post.bind (Rep K) P) fun u H1 m => ?_⟩
  obtain ⟨M1, ι1, x, s1, t1, C1, r1, P1⟩ := m.ex
  refine ⟨M1, ι1, δ, s1, C1, S.step t1, Post.mono (Post.bind (Rep K) P1) fun v H2 m => ?_⟩
  obtain ⟨M2, ι2, y, s2, t2, C2, r2, P2⟩ := m.ex
  refine ok _ M2 ι2 s2 H2 x y u v _ C2 (r1.step t2) r2 (Post.mono (Post.bind (Rep K) P2) fun z H3 m => ?_)
  obtain ⟨M3, ι3, w, s3, t3, C3, r3, P3⟩ := m.ex
  cases w with
  | bl k =>
    unfold Rep RepF at r3
    subst r3
    refine ⟨k, rfl, ?_⟩
    cases k with
    | true =>
      refine iteT ⟨M3, ι3, δ, s3, C3, S.step ((t1.trans t2).trans t3), Post.mono (Post.bind (Rep K) P3) fun v' H4 m => ?_⟩
      obtain ⟨M4, ι4, y', s4, t4, C4, r4, P4⟩ := m.ex
      exact ok' _ M4 ι4 s4 H4 y y' v v' Q C4 (r2.step (t3.trans t4)) r4 P4
    | false => exact iteF (Post.now (C := Rep K) P3 C3 (Rep.of (by unfold RepF; rfl)))
  | _ => exact P3.elim
theorem je_chain {c : Expr} {fc : EF} {op op' : CmpOp} {r r' : R2} {g g' : Op2} (ho : OpR X (compareOp op) r) (ho' : OpR X (compareOp op') r') (ok : Ok2 X.K r g) (ok' : Ok2 X.K r' g') (ha : JE X cl W a fa) (hb : JE X cl W b fb) (hc : JE X cl W c fc) (hm : lastMarks [op, op'] [b, c] = false := by with_unfolding_all rfl) : JE X cl W (.Compare a [op, op'] [b, c] pos) (chain g g' fa fb fc) := (pe_chain ho ho' ha hb hc hm).imp (rd_chain ok ok')
theorem ja_nil : JA X cl W [] nil := pa_nil.imp fun σ H Q h => by
  obtain ⟨M, ι, δ, s, C, S, P⟩ := h
  exact Post.now (C := Reps X.K) P C .nil
theorem ja_cons (ha : JE X cl W e fa) (hr : JA X cl W es fr) (hs : starEach (e :: es) X.env = (false, eval e X.env) :: starEach es X.env := by rfl) : JA X cl W (e :: es) (con fa fr) := (pa_cons ha hr hs).imp fun σ H Q h => by
  obtain ⟨M, ι, δ, s, C, S, P⟩ := h
  refine ⟨M, ι, δ, s, C, S, Post.mono (Post.bind (Rep X.K) P) fun u H1 m => ?_⟩
  obtain ⟨M1, ι1, x, s1, t1, C1, r1, P1⟩ := m.ex
  refine ⟨M1, ι1, δ, s1, C1, S.step t1, Post.mono (Post.bind (Reps X.K) P1) fun v H2 m => ?_⟩
  obtain ⟨M2, ι2, y, s2, t2, C2, r2, P2⟩ := m.ex
  exact Post.now (C := Reps X.K) P2 C2 (.cons (r1.step t2) r2)
theorem rd_fnB {K : PySem.W.Frag} {r : List V → Hp → VK → Prop} {g : Sto → List D → O D} (ok : OkN K r g) (σ : L2.St) (H : Hp) (Q : VK) (h : rdE K cl W (fnB g fr) σ H Q) : tCB r (rdA K cl W fr) σ H Q := by
  obtain ⟨M, ι, δ, s, C, S, P⟩ := h
  refine ⟨M, ι, δ, s, C, S, Post.mono (Post.bind (Reps K) P) fun u H1 m => ?_⟩
  obtain ⟨M1, ι1, x, s1, t1, C1, r1, P1⟩ := m.ex
  exact ok _ M1 ι1 s1 H1 x u Q C1 r1 P1
theorem je_callB {id : String} {x : Str} {p : Pos} {r : List V → Hp → VK → Prop} {g : Sto → List D → O D} (hc : CallR X (.builtin id) r) (ok : OkN X.K r g) (hg : Gl X x) (hm : X.mg x = none) (hv : bootBuiltins x = some (.builtin id)) (ha : JA X cl W (e :: es) fr) (hn : x ≠ "__name__" := by decide) (hdb : (x == ("__debug__" : Str)) = false := by decide)
    (he : starEach (e :: es) X.env = (false, eval e X.env) :: starEach es X.env := by rfl) (hpl : (backTo pos (starEach es X.env)).any (·.1) = false := by rfl) : JE X cl W (.Call (.Name x p) (e :: es) [] pos) (fnB g fr) := (pe_callB hc hg hm hv ha hn hdb he hpl).imp (rd_fnB ok)
theorem je_callTy {T : String} {x : Str} {p : Pos} {r : List V → Hp → VK → Prop} {g : Sto → List D → O D} (hc : CallR X (.type T) r) (ok : OkN X.K r g) (hg : Gl X x) (hm : X.mg x = none) (hv : bootBuiltins x = some (.type T)) (ha : JA X cl W (e :: es) fr) (hn : x ≠ "__name__" := by decide) (hdb : (x == ("__debug__" : Str)) = false := by decide)
    (he : starEach (e :: es) X.env = (false, eval e X.env) :: starEach es X.env := by rfl) (hpl : (backTo pos (starEach es X.env)).any (·.1) = false := by rfl) : JE X cl W (.Call (.Name x p) (e :: es) [] pos) (fnB g fr) := (pe_callTy hc hg hm hv ha hn hdb he hpl).imp (rd_fnB ok)
/-- o.m(..) of a built-in type -/
def meB (g : Sto → D → List D → O D) (fa : EF) (fr : AF) : EF := fun δ s => (fa δ s).bind fun x s1 => (fr δ s1).bind fun xs s2 => g s2 x xs
def OkM (K : PySem.W.Frag) (T : String) (r : V → List V → Hp → VK → Prop) (g : Sto → D → List D → O D) : Prop := ∀ (Wx : Nat → Hp → Prop) (M : Hp) (ι : List Addr) (s : Sto) (H : Hp) (x : D) (u : V) (xs : List D) (us : List V) (Q : VK), Conc K M ι s H → Rep K M ι x u → Reps K M ι xs us → Post K (Rep K) Wx M ι H (g s x xs) Q → r u us H Q
/-- .. of that type where anything comes of it -/
def TyM (K : PySem.W.Frag) (T : String) (t : Sto → D → Bool) : Prop := ∀ (M : Hp) (ι : List Addr) (s : Sto) (H : Hp) (x : D) (u : V), Conc K M ι s H → Rep K M ι x u → t s x = true → tyV K T u H
def meB' (t : Sto → D → Bool) (g : Sto → D → List D → O D) (fa : EF) (fr : AF) : EF := fun δ s => (fa δ s).bind fun x s1 => if t s1 x = true then (fr δ s1).bind fun xs s2 => g s2 x xs else .stuck
theorem je_bm {name : Str} {T id : String} {apos cpos : Pos} {r : V → List V → Hp → VK → Prop} {t : Sto → D → Bool} {g : Sto → D → List D → O D} (pa : PlainAttrs T) (slot : Slot T name id) (hty : typeOf (.builtin id) = pure (.type "method_descriptor")) (hm : MtR X id r) (tm : TyM X.K T t) (ok : OkM X.K T r g) (ho : JE X cl W a fa) (ha : JA X cl W (e :: es) fr)
    (hbase : attributeBase a name X.env (eval a X.env) = eval a X.env := by rfl)
    (hfew : ((backTo cpos (starEach (e :: es) X.env)).all (fun x => !x.1) && (backToKw cpos (keywordEach [] X.env)).all (fun x => x.1.isSome)
      && decide ((e :: es).length + ([] : List Keyword).length + (if ([] : List Keyword).isEmpty then 0 else 1) < 30)) = true := by rfl)
    (hline : (apos.endLine == cpos.line) = true := by rfl) (hs : starEach (e :: es) X.env = (false, eval e X.env) :: starEach es X.env := by rfl) (hplain : (backTo cpos (starEach es X.env)).any (·.1) = false := by rfl) :
    JE X cl W (.Call (.Attribute a name apos) (e :: es) [] cpos) (meB' t g fa fr) := (pe_bm pa slot hty hm ho ha hbase hfew hline hs hplain).imp fun σ H Q h => by
  obtain ⟨M, ι, δ, s, C, S, P⟩ := h
  refine ⟨M, ι, δ, s, C, S, Post.mono (Post.bind (Rep X.K) P) fun u H1 m => ?_⟩
  obtain ⟨M1, ι1, x, s1, t1, C1, r1, P1⟩ := m.ex
  by_cases ht : t s1 x = true
  · rw [if_pos ht] at P1
    refine ⟨tm M1 ι1 s1 H1 x u C1 r1 ht, M1, ι1, δ, s1, C1, S.step t1, Post.mono (Post.bind (Reps X.K) P1) fun v H2 m => ?_⟩
    obtain ⟨M2, ι2, y, s2, t2, C2, r2, P2⟩ := m.ex
    exact ok _ M2 ι2 s2 H2 x u y v Q C2 (r1.step t2) r2 P2
  · rw [if_neg ht] at P1; exact P1.elim
theorem je_bm0 {name : Str} {T id : String} {apos cpos : Pos} {r : V → List V → Hp → VK → Prop} {t : Sto → D → Bool} {g : Sto → D → List D → O D} (pa : PlainAttrs T) (slot : Slot T name id) (hty : typeOf (.builtin id) = pure (.type "method_descriptor")) (hm : MtR X id r) (tm : TyM X.K T t) (ok : OkM X.K T r g) (ho : JE X cl W a fa)
    (hbase : attributeBase a name X.env (eval a X.env) = eval a X.env := by rfl) (hline : (apos.endLine == cpos.line) = true := by rfl) : JE X cl W (.Call (.Attribute a name apos) [] [] cpos) (meB' t g fa nil) := (pe_bm0 pa slot hty hm ho hbase hline).imp fun σ H Q h => by
  obtain ⟨M, ι, δ, s, C, S, P⟩ := h
  refine ⟨M, ι, δ, s, C, S, Post.mono (Post.bind (Rep X.K) P) fun u H1 m => ?_⟩
  obtain ⟨M1, ι1, x, s1, t1, C1, r1, P1⟩ := m.ex
  by_cases ht : t s1 x = true
  · rw [if_pos ht] at P1
    exact ⟨tm M1 ι1 s1 H1 x u C1 r1 ht, ok _ M1 ι1 s1 H1 x u [] [] Q C1 r1 .nil P1⟩
  · rw [if_neg ht] at P1; exact P1.elim
/-! ### tests -/
def tst (fa : EF) : BF := fun δ s => (fa δ s).bind fun x s1 => match x with
  | .bl b => .val b s1
  | _ => .stuck
theorem rd_tst {K : PySem.W.Frag} (σ : L2.St) (H : Hp) (Q : Bool → Hp → Prop) (h : rdT K cl W (tst fa) σ H Q) : rdE K cl W fa σ H fun x H' => ∃ k, x = .bl k ∧ Q k H' := by
  obtain ⟨M, ι, δ, s, C, S, P⟩ := h
  refine ⟨M, ι, δ, s, C, S, Post.mono (Post.bind (Rep K) P) fun u H1 m => ?_⟩
  obtain ⟨M1, ι1, x, s1, t1, C1, r1, P1⟩ := m.ex
  cases x with
  | bl k =>
    unfold Rep RepF at r1
    exact ⟨k, r1, Post.now (C := CB) P1 C1 rfl⟩
  | _ => exact P1.elim
theorem jt_val (h : JE X cl W e fa) (he : ∀ whole, isTrue e X.env whole = (do let v ← whole; standAt e.pos; holding [v] (truthy v)) := by intro _; rfl) : JT X cl W e (tst fa) := (pt_val h he).imp fun σ H Q h => rd_tst σ H Q h
theorem jt_cmp {op : CmpOp} {r : R2} {g : Op2} (ho : OpR X (compareOp op) r) (ok : Ok2 X.K r g) (ha : JE X cl W a fa) (hb : JE X cl W b fb) (hm : behindInMarks op b = false) : JT X cl W (.Compare a [op] [b] pos) (tst (bin g fa fb)) := (pt_cmpR ho ha hb hm).imp fun σ H Q h => rd_bin ok σ H _ (rd_tst σ H Q h)
theorem jt_chain {c : Expr} {fc : EF} {op op' : CmpOp} {r r' : R2} {g g' : Op2} (ho : OpR X (compareOp op) r) (ho' : OpR X (compareOp op') r') (ok : Ok2 X.K r g) (ok' : Ok2 X.K r' g') (ha : JE X cl W a fa) (hb : JE X cl W b fb) (hc : JE X cl W c fc) (hm : lastMarks [op, op'] [b, c] = false := by with_unfolding_all rfl) : JT X cl W (.Compare a [op, op'] [b, c] pos) (tst (chain g g' fa fb fc)) := (pt_chain ho ho' ha hb hc hm).imp fun σ H Q h => rd_chain ok ok' σ H _ (rd_tst σ H Q h)
variable {ta tb : BF} {rest : List Expr}
def andT (ta tb : BF) : BF := fun δ s => (ta δ s).bind fun b s1 => if b = true then tb δ s1 else .val false s1
def orT (ta tb : BF) : BF := fun δ s => (ta δ s).bind fun b s1 => if b = true then .val true s1 else tb δ s1
def notT (ta : BF) : BF := fun δ s => (ta δ s).bind fun b s1 => .val (!b) s1
theorem jw_and1 (ha : JT X cl W a ta) : JW X cl W (.BoolOp .And [a] pos) ta := pw_and1 ha
theorem jw_or1 (ha : JT X cl W a ta) : JW X cl W (.BoolOp .Or [a] pos) ta := pw_or1 ha
theorem jw_and (ha : JT X cl W a ta) (hb : JW X cl W (.BoolOp .And (b :: rest) pos) tb) : JW X cl W (.BoolOp .And (a :: b :: rest) pos) (andT ta tb) := (pw_and ha hb).imp fun σ H Q h => by
  obtain ⟨M, ι, δ, s, C, S, P⟩ := h
  refine ⟨M, ι, δ, s, C, S, Post.mono (Post.bind CB P) fun u H1 m => ?_⟩
  obtain ⟨M1, ι1, x, s1, t1, C1, rfl, P1⟩ := m.ex
  cases u with
  | true => exact iteT ⟨M1, ι1, δ, s1, C1, S.step t1, P1⟩
  | false => exact iteF (Post.now (C := CB) P1 C1 rfl)
theorem jw_or (ha : JT X cl W a ta) (hb : JW X cl W (.BoolOp .Or (b :: rest) pos) tb) : JW X cl W (.BoolOp .Or (a :: b :: rest) pos) (orT ta tb) := (pw_or ha hb).imp fun σ H Q h => by
  obtain ⟨M, ι, δ, s, C, S, P⟩ := h
  refine ⟨M, ι, δ, s, C, S, Post.mono (Post.bind CB P) fun u H1 m => ?_⟩
  obtain ⟨M1, ι1, x, s1, t1, C1, rfl, P1⟩ := m.ex
  cases u with
  | true => exact iteT (Post.now (C := CB) P1 C1 rfl)
  | false => exact iteF ⟨M1, ι1, δ, s1, C1, S.step t1, P1⟩
theorem jt_w (h : JW X cl W e ta) : JT X cl W e ta := h.pt
theorem jt_not (ha : JT X cl W a ta) : JT X cl W (.UnaryOp .Not a pos) (notT ta) := (pt_not ha).imp fun σ H Q h => by
  obtain ⟨M, ι, δ, s, C, S, P⟩ := h
  refine ⟨M, ι, δ, s, C, S, Post.mono (Post.bind CB P) fun u H1 m => ?_⟩
  obtain ⟨M1, ι1, x, s1, t1, C1, rfl, P1⟩ := m.ex
  exact Post.now (C := CB) P1 C1 rfl
/-- as values -/
def andE (fa fb : EF) : EF := fun δ s => (fa δ s).bind fun x s1 => match x with
  | .bl true => fb δ s1
  | .bl false => .val (.bl false) s1
  | _ => .stuck
def orE (fa fb : EF) : EF := fun δ s => (fa δ s).bind fun x s1 => match x with
  | .bl false => fb δ s1
  | .bl true => .val (.bl true) s1
  | _ => .stuck
def notE (fa : EF) : EF := fun δ s => (fa δ s).bind fun x s1 => match x with
  | .bl b => .val (.bl (!b)) s1
  | _ => .stuck
theorem je_one {op} (h : JE X cl W a fa) : JE X cl W (.BoolOp op [a] pos) fa := pe_one h
theorem je_and (ha : JE X cl W a fa) (hb : JE X cl W (.BoolOp .And (b :: rest) pos) fb) : JE X cl W (.BoolOp .And (a :: b :: rest) pos) (andE fa fb) := (pe_and ha hb).imp fun σ H Q h => by
  obtain ⟨M, ι, δ, s, C, S, P⟩ := h
  refine ⟨M, ι, δ, s, C, S, Post.mono (Post.bind (Rep X.K) P) fun u H1 m => ?_⟩
  obtain ⟨M1, ι1, x, s1, t1, C1, r1, P1⟩ := m.ex
  cases x with
  | bl k =>
    unfold Rep RepF at r1
    refine ⟨k, r1, ?_⟩
    cases k with
    | true => exact iteT ⟨M1, ι1, δ, s1, C1, S.step t1, P1⟩
    | false => exact iteF (Post.now (C := Rep X.K) P1 C1 (Rep.of (by unfold RepF; rfl)))
  | _ => exact P1.elim
theorem je_or (ha : JE X cl W a fa) (hb : JE X cl W (.BoolOp .Or (b :: rest) pos) fb) : JE X cl W (.BoolOp .Or (a :: b :: rest) pos) (orE fa fb) := (pe_or ha hb).imp fun σ H Q h => by
  obtain ⟨M, ι, δ, s, C, S, P⟩ := h
  refine ⟨M, ι, δ, s, C, S, Post.mono (Post.bind (Rep X.K) P) fun u H1 m => ?_⟩
  obtain ⟨M1, ι1, x, s1, t1, C1, r1, P1⟩ := m.ex
  cases x with
  | bl k =>
    unfold Rep RepF at r1
    refine ⟨k, r1, ?_⟩
    cases k with
    | true => exact iteT (Post.now (C := Rep X.K) P1 C1 (Rep.of (by unfold RepF; rfl)))
    | false => exact iteF ⟨M1, ι1, δ, s1, C1, S.step t1, P1⟩
  | _ => exact P1.elim
theorem je_not (ha : JE X cl W a fa) : JE X cl W (.UnaryOp .Not a pos) (notE fa) := (pe_not ha).imp fun σ H Q h => by
  obtain ⟨M, ι, δ, s, C, S, P⟩ := h
  refine ⟨M, ι, δ, s, C, S, Post.mono (Post.bind (Rep X.K) P) fun u H1 m => ?_⟩
  obtain ⟨M1, ι1, x, s1, t1, C1, r1, P1⟩ := m.ex
  cases x with
  | bl k =>
    unfold Rep RepF at r1
    exact ⟨k, r1, Post.now (C := Rep X.K) P1 C1 (Rep.of (by unfold RepF; rfl))⟩
  | _ => exact P1.elim
def iteE (ta : BF) (fa fb : EF) : EF := fun δ s => (ta δ s).bind fun b s1 => if b = true then fa δ s1 else fb δ s1
theorem je_ite {c : Expr} (hc : JT X cl W c ta) (ha : JE X cl W a fa) (hb : JE X cl W b fb) : JE X cl W (.IfExp c a b pos) (iteE ta fa fb) := (pe_ifExp hc ha hb).imp fun σ H Q h => by
  obtain ⟨M, ι, δ, s, C, S, P⟩ := h
  refine ⟨M, ι, δ, s, C, S, Post.mono (Post.bind CB P) fun u H1 m => ?_⟩
  obtain ⟨M1, ι1, x, s1, t1, C1, rfl, P1⟩ := m.ex
  cases u with
  | true => exact iteT ⟨M1, ι1, δ, s1, C1, S.step t1, P1⟩
  | false => exact iteF ⟨M1, ι1, δ, s1, C1, S.step t1, P1⟩
/-! ### displays -/
theorem lim_le {n : Nat} (h : n ≤ 16000000) : n ≤ sizeLine := Nat.le_trans h (by decide)
def tupE (fr : AF) : EF := fun δ s => (fr δ s).bind fun xs s1 => if flats xs = true ∧ xs.length ≤ 16000000 then .val (.tup xs) s1 else .stuck
def lstE (fr : AF) : EF := fun δ s => (fr δ s).bind fun xs s1 => if flats xs = true ∧ xs.length ≤ 16000000 then .val (.lst xs) s1 else .stuck
/-- a list of one's own -/
def ownE (fr : AF) : EF := fun δ s => (fr δ s).bind fun xs s1 => if xs.length ≤ 16000000 then .val (.ob s1.length) (s1 ++ [.lst xs]) else .stuck
theorem Post.laidT {K : PySem.W.Frag} {Wx : Nat → Hp → Prop} {M : Hp} {ι : List Addr} {H : Hp} {s : Sto} {xs : List D} {us : List V} {Q : VK} (P : Post K (Rep K) Wx M ι H (.val (.tup xs) s) Q) (C : Conc K M ι s H) (r : RepL K M xs us) {p : Addr} (hp : H p = none) : Q (.ref p) (upd H p (.tup us)) := by
  obtain ⟨C1, t1⟩ := C.laid (o := .tup us) hp
  exact P _ _ _ _ t1 C1 (Rep.of (by unfold RepF; exact ⟨p, us, rfl, .inl upd_same, r.step t1⟩))
theorem Post.laidL {K : PySem.W.Frag} {Wx : Nat → Hp → Prop} {M : Hp} {ι : List Addr} {H : Hp} {s : Sto} {xs : List D} {us : List V} {Q : VK} (P : Post K (Rep K) Wx M ι H (.val (.lst xs) s) Q) (C : Conc K M ι s H) (r : RepL K M xs us) {p : Addr} (hp : H p = none) : Q (.ref p) (upd H p (.lst us)) := by
  obtain ⟨C1, t1⟩ := C.laid (o := .lst us) hp
  exact P _ _ _ _ t1 C1 (Rep.of (by unfold RepF; exact ⟨p, us, rfl, upd_same, r.step t1⟩))
theorem Conc.owned {K : PySem.W.Frag} {M : Hp} {ι : List Addr} {s : Sto} {H : Hp} (C : Conc K M ι s H) {p : Addr} {xs : List D} {us : List V} (hp : H p = none) (r : Reps K M ι xs us) : Conc K M (ι ++ [p]) (s ++ [.lst xs]) (upd H p (.lst us)) ∧ Step M ι H M (ι ++ [p]) (upd H p (.lst us)) := by
  obtain ⟨hM, hι⟩ := C.fresh hp
  obtain ⟨C1, t1⟩ := C.over (o := .lst us) hp
  refine ⟨C1.join hι ⟨hM, us, upd_same, r.mono (Ex.refl M) ii_app⟩, Ex.refl M, ii_app, t1.fr, fun a h => ?_, fun a e => .inl e⟩
  rcases List.mem_append.mp h with h | h
  · exact .inl h
  · obtain rfl : a = p := by simpa using h
    exact .inr hp
theorem Post.laidO {K : PySem.W.Frag} {Wx : Nat → Hp → Prop} {M : Hp} {ι : List Addr} {H : Hp} {s : Sto} {xs : List D} {us : List V} {Q : VK} (P : Post K (Rep K) Wx M ι H (.val (.ob s.length) (s ++ [.lst xs])) Q) (C : Conc K M ι s H) (r : Reps K M ι xs us) {p : Addr} (hp : H p = none) : Q (.ref p) (upd H p (.lst us)) := by
  obtain ⟨C1, t1⟩ := C.owned hp r
  exact P _ _ _ _ t1 C1 ⟨p, rfl, by rw [← C.len]; simp⟩
theorem je_tup {k : Nat} (h : JA X cl W es fr) : JE X cl W (.Tuple es k pos) (tupE fr) := (pe_tup h).imp fun σ H Q h => by
  obtain ⟨M, ι, δ, s, C, S, P⟩ := h
  refine ⟨M, ι, δ, s, C, S, Post.mono (Post.bind (Reps X.K) P) fun us H1 m => ?_⟩
  obtain ⟨M1, ι1, xs, s1, t1, C1, r1, P1⟩ := m.ex
  by_cases hc : flats xs = true ∧ xs.length ≤ 16000000
  · rw [if_pos hc] at P1
    exact ⟨by rw [r1.length]; exact lim_le hc.2, fun p hp => Post.laidT P1 C1 (r1.flat hc.1) hp⟩
  · rw [if_neg hc] at P1; exact P1.elim
theorem je_lst (h : JA X cl W es fr) : JE X cl W (.List es pos) (lstE fr) := (pe_lst h).imp fun σ H Q h => by
  obtain ⟨M, ι, δ, s, C, S, P⟩ := h
  refine ⟨M, ι, δ, s, C, S, Post.mono (Post.bind (Reps X.K) P) fun us H1 m => ?_⟩
  obtain ⟨M1, ι1, xs, s1, t1, C1, r1, P1⟩ := m.ex
  by_cases hc : flats xs = true ∧ xs.length ≤ 16000000
  · rw [if_pos hc] at P1
    exact ⟨by rw [r1.length]; exact lim_le hc.2, fun p hp => Post.laidL P1 C1 (r1.flat hc.1) hp⟩
  · rw [if_neg hc] at P1; exact P1.elim
theorem je_own (h : JA X cl W es fr) : JE X cl W (.List es pos) (ownE fr) := (pe_lst h).imp fun σ H Q h => by
  obtain ⟨M, ι, δ, s, C, S, P⟩ := h
  refine ⟨M, ι, δ, s, C, S, Post.mono (Post.bind (Reps X.K) P) fun us H1 m => ?_⟩
  obtain ⟨M1, ι1, xs, s1, t1, C1, r1, P1⟩ := m.ex
  by_cases hc : xs.length ≤ 16000000
  · rw [if_pos hc] at P1
    exact ⟨by rw [r1.length]; exact lim_le hc, fun p hp => Post.laidO P1 C1 r1 hp⟩
  · rw [if_neg hc] at P1; exact P1.elim
end
end Fl
set_option Elab.async false
set_option linter.all false
set_option maxRecDepth 100000
namespace Fl
open PySem PySem.Spec PyProof.Rows L2
/-! ### data, looked at -/
def view (s : Sto) : D → D
  | .ob k => match s[k]? with
    | some (.lst ds) => if flats ds = true then .lst ds else .ob k
    | _ => .ob k
  | d => d
/-- .. of lists of one's own that hold others, too -/
def look (s : Sto) : D → D
  | .ob k => match s[k]? with
    | some (.lst ds) => .lst ds
    | _ => .ob k
  | d => d
@[simp] theorem view_non {s : Sto} : view s .non = .non := rfl
@[simp] theorem view_bl {s : Sto} {b : Bool} : view s (.bl b) = .bl b := rfl
@[simp] theorem view_int {s : Sto} {b : Int} : view s (.int b) = .int b := rfl
@[simp] theorem view_str {s : Sto} {b : List Nat} : view s (.str b) = .str b := rfl
@[simp] theorem view_tup {s : Sto} {b : List D} : view s (.tup b) = .tup b := rfl
@[simp] theorem view_lst {s : Sto} {b : List D} : view s (.lst b) = .lst b := rfl
@[simp] theorem view_ty {s : Sto} {b : String} : view s (.ty b) = .ty b := rfl
@[simp] theorem view_scr {s : Sto} {b : List Int} : view s (.scr b) = .scr b := rfl
theorem view_ob {s : Sto} {k : Nat} {ds : List D} (h : s[k]? = some (.lst ds)) (f : flats ds = true) : view s (.ob k) = .lst ds := by simp only [view, h, f]; rfl
@[simp] theorem look_str {s : Sto} {b : List Nat} : look s (.str b) = .str b := rfl
@[simp] theorem look_tup {s : Sto} {b : List D} : look s (.tup b) = .tup b := rfl
@[simp] theorem look_lst {s : Sto} {b : List D} : look s (.lst b) = .lst b := rfl
@[simp] theorem look_scr {s : Sto} {b : List Int} : look s (.scr b) = .scr b := rfl
theorem look_ob {s : Sto} {k : Nat} {ds : List D} (h : s[k]? = some (.lst ds)) : look s (.ob k) = .lst ds := by simp only [look, h]
/-- a looked-at value where it stands -/
def Sees (K : PySem.W.Frag) (M H : Hp) : D → V → Prop
  | .lst ds, v => ∃ a vs, v = .ref a ∧ H a = some (.lst vs) ∧ RepL K M ds vs
  | .ob _, _ => True
  | d, v => RepF K M d v
section
variable {K : PySem.W.Frag} {M : Hp} {ι : List Addr} {s : Sto} {H : Hp}
theorem Conc.sees (C : Conc K M ι s H) {x : D} {v : V} (r : Rep K M ι x v) : Sees K M H (view s x) v := by
  cases x with
  | ob k =>
    obtain ⟨a, rfl, h⟩ := r
    cases e : s[k]? with
    | none =>
      have q : view s (.ob k) = .ob k := by simp only [view, e]
      rw [q]; exact True.intro
    | some o =>
      cases o with
      | dead =>
        have q : view s (.ob k) = .ob k := by simp only [view, e]
        rw [q]; exact True.intro
      | ins _ _ =>
        have q : view s (.ob k) = .ob k := by simp only [view, e]
        rw [q]; exact True.intro
      | dic _ =>
        have q : view s (.ob k) = .ob k := by simp only [view, e]
        rw [q]; exact True.intro
      | lst ds =>
        by_cases f : flats ds = true
        · rw [view_ob e f]
          obtain ⟨hM, vs, h1, h2⟩ := C.obs k a _ h e
          exact ⟨a, vs, rfl, h1, h2.flat f⟩
        · have q : view s (.ob k) = .ob k := by simp only [view, e]; exact if_neg f
          rw [q]; exact True.intro
  | lst ds =>
    have r' : RepF K M (.lst ds) v := r
    unfold RepF at r'
    obtain ⟨a, vs, e, h1, h2⟩ := r'
    exact ⟨a, vs, e, C.sub a _ h1, h2⟩
  | _ => exact r
/-- .. with the things of the store -/
def Looks (K : PySem.W.Frag) (M : Hp) (ι : List Addr) (H : Hp) : D → V → Prop
  | .lst ds, v => ∃ a vs, v = .ref a ∧ H a = some (.lst vs) ∧ Reps K M ι ds vs
  | .ob _, _ => True
  | d, v => RepF K M d v
theorem Conc.looks (C : Conc K M ι s H) {x : D} {v : V} (r : Rep K M ι x v) : Looks K M ι H (look s x) v := by
  cases x with
  | ob k =>
    obtain ⟨a, rfl, h⟩ := r
    cases e : s[k]? with
    | none =>
      have q : look s (.ob k) = .ob k := by simp only [look, e]
      rw [q]; exact True.intro
    | some o =>
      cases o with
      | dead =>
        have q : look s (.ob k) = .ob k := by simp only [look, e]
        rw [q]; exact True.intro
      | ins _ _ =>
        have q : look s (.ob k) = .ob k := by simp only [look, e]
        rw [q]; exact True.intro
      | dic _ =>
        have q : look s (.ob k) = .ob k := by simp only [look, e]
        rw [q]; exact True.intro
      | lst ds =>
        rw [look_ob e]
        obtain ⟨hM, vs, h1, h2⟩ := C.obs k a _ h e
        exact ⟨a, vs, rfl, h1, h2⟩
  | lst ds =>
    have r' : RepF K M (.lst ds) v := r
    unfold RepF at r'
    obtain ⟨a, vs, e, h1, h2⟩ := r'
    exact ⟨a, vs, e, C.sub a _ h1, Reps.of h2⟩
  | _ => exact r
/-! ### == -/
mutual
def toPy : D → PyData
  | .non => .none
  | .bl b => .bool b
  | .int i => .int i
  | .str x => .str ⟨x.toArray⟩
  | .tup ds => .tuple (toPys ds)
  | .lst ds => .list (toPys ds)
  | .scr ns => .list (ns.map PyData.int)
  | .ty _ => .none
  | .ob _ => .none
def toPys : List D → List PyData
  | [] => []
  | d :: ds => toPy d :: toPys ds
end
mutual
/-- how deep; 100 for what == is not asked of -/
def dep : D → Nat
  | .tup ds => deps ds + 1
  | .lst ds => deps ds + 1
  | .scr _ => 1
  | .ty _ => 100
  | .ob _ => 100
  | _ => 0
def deps : List D → Nat
  | [] => 0
  | d :: ds => max (dep d) (deps ds)
end
theorem dpAll_ints : ∀ ns : List Int, DpAll K H (ns.map V.int) (ns.map PyData.int)
  | [] => .nil
  | n :: ns => .cons (.int n) (dpAll_ints ns)
mutual
theorem RepF.dp (m : Ex M H) : ∀ {d : D} {v : V}, RepF K M d v → dep d < 100 → Dp K H v (toPy d)
  | .non, v, h, _ => by unfold RepF at h; subst h; unfold toPy; exact .non
  | .bl b, v, h, _ => by unfold RepF at h; subst h; unfold toPy; exact .bl b
  | .int i, v, h, _ => by unfold RepF at h; subst h; unfold toPy; exact .int i
  | .str x, v, h, _ => by unfold RepF at h; obtain ⟨rfl, _⟩ := h; unfold toPy; exact .str _
  | .tup ds, v, h, e => by
    unfold RepF at h
    obtain ⟨a, vs, rfl, h1, h2⟩ := h
    unfold toPy
    unfold dep at e
    exact .tup (Ex.t m h1.sq) (RepL.dp m h2 (by omega))
  | .lst ds, v, h, e => by
    unfold RepF at h
    obtain ⟨a, vs, rfl, h1, h2⟩ := h
    unfold toPy
    unfold dep at e
    exact .lst (SqL.of (m _ _ h1)) (RepL.dp m h2 (by omega))
  | .scr ns, v, h, _ => by
    unfold RepF at h
    obtain ⟨a, rfl, h1⟩ := h
    unfold toPy
    exact .lst (Ex.l m h1) (dpAll_ints ns)
  | .ty _, _, _, e => by unfold dep at e; omega
  | .ob _, _, _, e => by unfold dep at e; omega
theorem RepL.dp (m : Ex M H) : ∀ {ds : List D} {vs : List V}, RepL K M ds vs → deps ds < 100 → DpAll K H vs (toPys ds)
  | [], _, h, _ => by rw [h.unnil]; unfold toPys; exact .nil
  | d :: ds, _, h, e => by
    obtain ⟨v, r, rfl, h1, h2⟩ := h.uncons
    unfold deps at e
    unfold toPys
    exact .cons (RepF.dp m h1 (by omega)) (RepL.dp m h2 (by omega))
end
theorem Sees.dp (m : Ex M H) {d : D} {v : V} (h : Sees K M H d v) (e : dep d < 100) : Dp K H v (toPy d) := by
  cases d with
  | lst ds =>
    obtain ⟨a, vs, rfl, h1, h2⟩ := h
    unfold toPy
    unfold dep at e
    exact .lst (SqL.of h1) (RepL.dp m h2 (by omega))
  | ob k => unfold dep at e; omega
  | _ => exact RepF.dp m h e
theorem lay_ints : ∀ ns : List Int, PyData.canLayAll0 (ns.map PyData.int) = true
  | [] => by simp [PyData.canLayAll0]
  | n :: ns => by simp [PyData.canLayAll0, PyData.canLay0, lay_ints ns]
mutual
theorem RepF.lay : ∀ {d : D} {v : V}, RepF K M d v → PyData.canLay0 (toPy d) = true
  | .non, _, _ => by simp [toPy, PyData.canLay0]
  | .bl _, _, _ => by simp [toPy, PyData.canLay0]
  | .int _, _, _ => by simp [toPy, PyData.canLay0]
  | .str x, _, h => by
    unfold RepF at h
    have h2 := h.2
    simp only [toPy, PyData.canLay0, PyData.strOk]
    rw [← Array.all_toList]
    exact h2
  | .tup ds, _, h => by
    unfold RepF at h
    obtain ⟨a, vs, _, _, h2⟩ := h
    simp only [toPy, PyData.canLay0]
    exact RepL.lay h2
  | .lst ds, _, h => by
    unfold RepF at h
    obtain ⟨a, vs, _, _, h2⟩ := h
    simp only [toPy, PyData.canLay0]
    exact RepL.lay h2
  | .scr ns, _, _ => by simp only [toPy, PyData.canLay0]; exact lay_ints ns
  | .ty _, _, _ => by simp [toPy, PyData.canLay0]
  | .ob _, _, _ => by simp [toPy, PyData.canLay0]
theorem RepL.lay : ∀ {ds : List D} {vs : List V}, RepL K M ds vs → PyData.canLayAll0 (toPys ds) = true
  | [], _, _ => by simp [toPys, PyData.canLayAll0]
  | d :: ds, _, h => by
    obtain ⟨v, r, rfl, h1, h2⟩ := h.uncons
    simp only [toPys, PyData.canLayAll0, Bool.and_eq_true]
    exact ⟨RepF.lay h1, RepL.lay h2⟩
end
theorem Sees.lay {d : D} {v : V} (h : Sees K M H d v) : PyData.canLay0 (toPy d) = true := by
  cases d with
  | lst ds =>
    obtain ⟨a, vs, _, _, h2⟩ := h
    simp only [toPy, PyData.canLay0]
    exact RepL.lay h2
  | ob k => simp [toPy, PyData.canLay0]
  | _ => exact RepF.lay (K := K) (M := M) h
theorem depth_ints : ∀ ns : List Int, PyData.depthAll (ns.map PyData.int) = 0
  | [] => by simp [PyData.depthAll]
  | n :: ns => by simp [PyData.depthAll, PyData.depth, depth_ints ns]
mutual
theorem depth_py : ∀ d : D, PyData.depth (toPy d) ≤ dep d
  | .non => by simp [toPy, PyData.depth]
  | .bl _ => by simp [toPy, PyData.depth]
  | .int _ => by simp [toPy, PyData.depth]
  | .str _ => by simp [toPy, PyData.depth]
  | .tup ds => by have := depths_py ds; simp only [toPy, PyData.depth, dep]; omega
  | .lst ds => by have := depths_py ds; simp only [toPy, PyData.depth, dep]; omega
  | .scr ns => by simp [toPy, PyData.depth, dep, depth_ints]
  | .ty _ => by simp [toPy, PyData.depth]
  | .ob _ => by simp [toPy, PyData.depth]
theorem depths_py : ∀ ds : List D, PyData.depthAll (toPys ds) ≤ deps ds
  | [] => by simp [toPys, PyData.depthAll]
  | d :: ds => by
    have h1 := depth_py d
    have h2 := depths_py ds
    simp only [toPys, PyData.depthAll, deps]
    omega
end
theorem Sees.shaped {d : D} {v : V} (h : Sees K M H d v) (e : dep d ≤ 60) : SeqAt.shaped (toPy d) = true := by
  unfold SeqAt.shaped
  rw [h.lay, Bool.true_and]
  exact decide_eq_true (Nat.le_trans (depth_py d) (by omega))
def deq (x y : D) : Bool := PyData.eqv (toPy x) (toPy y)
def deqs (xs ys : List D) : Bool := PyData.eqvAll (toPys xs) (toPys ys)
end
def eqG : Op2 := fun s x y => if dep (view s x) ≤ 60 ∧ dep (view s y) ≤ 60 then .val (.bl (deq (view s x) (view s y))) s else .stuck
def neG : Op2 := fun s x y => if dep (view s x) ≤ 60 ∧ dep (view s y) ≤ 60 then .val (.bl (!deq (view s x) (view s y))) s else .stuck
theorem rf_bl {K : PySem.W.Frag} {M : Hp} {ι : List Addr} {b : Bool} : Rep K M ι (.bl b) (.bl b) := Rep.of (by unfold RepF; rfl)
theorem rf_int {K : PySem.W.Frag} {M : Hp} {ι : List Addr} {b : Int} : Rep K M ι (.int b) (.int b) := Rep.of (by unfold RepF; rfl)
theorem rf_non {K : PySem.W.Frag} {M : Hp} {ι : List Addr} : Rep K M ι .non .non := Rep.of (by unfold RepF; rfl)
theorem rf_str {K : PySem.W.Frag} {M : Hp} {ι : List Addr} {cs : List Nat} (h : okS cs = true) : Rep K M ι (.str cs) (.str ⟨cs.toArray⟩) := Rep.of (by unfold RepF; exact ⟨rfl, h⟩)
theorem rf_str' {K : PySem.W.Frag} {M : Hp} {ι : List Addr} {cs : List Nat} {x : Str} (e : x = ⟨cs.toArray⟩) (h : okS cs = true) : Rep K M ι (.str cs) (.str x) := by rw [e]; exact rf_str h
theorem ok_eq {K : PySem.W.Frag} : Ok2 K (rEqD K) eqG := fun Wx M ι s H x y u v Q C rx ry P => by
  unfold eqG at P
  split at P
  · rename_i h
    have s1 := C.sees rx
    have s2 := C.sees ry
    exact ⟨_, _, s1.dp C.sub (by omega), s2.dp C.sub (by omega), s1.shaped h.1, s2.shaped h.2, Post.now (C := Rep K) P C rf_bl⟩
  · exact P.elim
theorem ok_ne {K : PySem.W.Frag} : Ok2 K (rNeD K) neG := fun Wx M ι s H x y u v Q C rx ry P => by
  unfold neG at P
  split at P
  · rename_i h
    have s1 := C.sees rx
    have s2 := C.sees ry
    exact ⟨_, _, s1.dp C.sub (by omega), s2.dp C.sub (by omega), s1.shaped h.1, s2.shaped h.2, Post.now (C := Rep K) P C rf_bl⟩
  · exact P.elim
/-! ### arithmetic -/
def intG (f : Int → Int → D) : Op2 := fun s x y => match x, y with
  | .int i, .int j => .val (f i j) s
  | _, _ => .stuck
def intCG (c : Int → Int → Bool) (f : Int → Int → D) : Op2 := fun s x y => match x, y with
  | .int i, .int j => if c i j = true then .val (f i j) s else .stuck
  | _, _ => .stuck
theorem Rep.int {K : PySem.W.Frag} {M : Hp} {ι : List Addr} {i : Int} {v : V} (h : Rep K M ι (.int i) v) : v = .int i := by
  have h' : RepF K M (.int i) v := h
  unfold RepF at h'; exact h'
theorem Rep.bl {K : PySem.W.Frag} {M : Hp} {ι : List Addr} {i : Bool} {v : V} (h : Rep K M ι (.bl i) v) : v = .bl i := by
  have h' : RepF K M (.bl i) v := h
  unfold RepF at h'; exact h'
theorem Rep.str {K : PySem.W.Frag} {M : Hp} {ι : List Addr} {i : List Nat} {v : V} (h : Rep K M ι (.str i) v) : v = .str ⟨i.toArray⟩ ∧ okS i = true := by
  have h' : RepF K M (.str i) v := h
  unfold RepF at h'; exact h'
theorem Rep.non {K : PySem.W.Frag} {M : Hp} {ι : List Addr} {v : V} (h : Rep K M ι .non v) : v = .non := by
  have h' : RepF K M .non v := h
  unfold RepF at h'; exact h'
theorem Rep.tup {K : PySem.W.Frag} {M : Hp} {ι : List Addr} {ds : List D} {v : V} (h : Rep K M ι (.tup ds) v) : ∃ a vs, v = .ref a ∧ TupAt K M a vs ∧ RepL K M ds vs := by
  have h' : RepF K M (.tup ds) v := h
  unfold RepF at h'; exact h'
theorem Rep.lst {K : PySem.W.Frag} {M : Hp} {ι : List Addr} {ds : List D} {v : V} (h : Rep K M ι (.lst ds) v) : ∃ a vs, v = .ref a ∧ M a = some (.lst vs) ∧ RepL K M ds vs := by
  have h' : RepF K M (.lst ds) v := h
  unfold RepF at h'; exact h'
theorem ok_int {K : PySem.W.Frag} {f : Int → Int → D} {g : Int → Int → V} (h : ∀ i j M ι, Rep K M ι (f i j) (g i j)) : Ok2 K (rI0 g) (intG f) := fun Wx M ι s H x y u v Q C rx ry P => by
  unfold intG at P
  split at P
  · exact ⟨_, _, rx.int, ry.int, Post.now (C := Rep K) P C (h _ _ _ _)⟩
  · exact P.elim
theorem ok_intC {K : PySem.W.Frag} {c : Int → Int → Bool} {p : Int → Int → Prop} {f : Int → Int → D} {g : Int → Int → V} (hc : ∀ i j, c i j = true → p i j) (h : ∀ i j M ι, Rep K M ι (f i j) (g i j)) : Ok2 K (rI p g) (intCG c f) := fun Wx M ι s H x y u v Q C rx ry P => by
  unfold intCG at P
  split at P
  · split at P
    · rename_i e
      exact ⟨_, _, rx.int, ry.int, hc _ _ e, Post.now (C := Rep K) P C (h _ _ _ _)⟩
    · exact P.elim
  · exact P.elim
def subG : Op2 := intG fun i j => .int (i - j)
def ltG : Op2 := intG fun i j => .bl (decide (i < j))
def leG : Op2 := intG fun i j => .bl (decide (i ≤ j))
def gtG : Op2 := intG fun i j => .bl (decide (j < i))
def geG : Op2 := intG fun i j => .bl (decide (j ≤ i))
def modG : Op2 := intCG (fun _ j => decide (0 < j)) fun i j => .int (i % j)
def divG : Op2 := intCG (fun _ j => decide (0 < j) && decide (j < 2 ^ 64)) fun i j => .int (i / j)
def powG : Op2 := intCG (fun i j => decide (0 ≤ j) && decide (j ≤ 1000) && decide (-1000 < i) && decide (i < 1000)) fun i j => .int (i ^ j.toNat)
def big (i : Int) : Bool := decide (-(2 ^ 64) < i) && decide (i < 2 ^ 64)
theorem ok_sub {K : PySem.W.Frag} : Ok2 K (rI0 fun i j => .int (i - j)) subG := ok_int fun _ _ _ _ => rf_int
theorem ok_lt {K : PySem.W.Frag} : Ok2 K (rI0 fun i j => .bl (decide (i < j))) ltG := ok_int fun _ _ _ _ => rf_bl
theorem ok_le {K : PySem.W.Frag} : Ok2 K (rI0 fun i j => .bl (decide (i ≤ j))) leG := ok_int fun _ _ _ _ => rf_bl
theorem ok_gt {K : PySem.W.Frag} : Ok2 K (rI0 fun i j => .bl (decide (j < i))) gtG := ok_int fun _ _ _ _ => rf_bl
theorem ok_ge {K : PySem.W.Frag} : Ok2 K (rI0 fun i j => .bl (decide (j ≤ i))) geG := ok_int fun _ _ _ _ => rf_bl
theorem ok_mod {K : PySem.W.Frag} : Ok2 K (rI (fun _ j => 0 < j) fun i j => .int (i % j)) modG := ok_intC (fun _ _ h => of_decide_eq_true h) fun _ _ _ _ => rf_int
theorem ok_div {K : PySem.W.Frag} : Ok2 K (rI CDivW fun i j => .int (i / j)) divG := ok_intC (fun i j h => by
  simp only [Bool.and_eq_true, decide_eq_true_eq] at h
  exact wide_div (b := 64) h.1 (by omega) (by omega) (by omega)) fun _ _ _ _ => rf_int
theorem ok_pow {K : PySem.W.Frag} : Ok2 K (rI CPow fun i j => .int (i ^ j.toNat)) powG := ok_intC (fun i j h => by
  simp only [Bool.and_eq_true, decide_eq_true_eq] at h
  exact ⟨h.1.1.1, by omega, by omega⟩) fun _ _ _ _ => rf_int
def negG : Op1 := fun s x => match x with
  | .int i => .val (.int (-i)) s
  | _ => .stuck
theorem ok_neg {K : PySem.W.Frag} : Ok1 K (rU fun i => .int (-i)) negG := fun Wx M ι s H x u Q C rx P => by
  unfold negG at P
  split at P
  · exact ⟨_, rx.int, Post.now (C := Rep K) P C rf_int⟩
  · exact P.elim
/-! ### + -/
def addG : Op2 := fun s x y => match view s x, view s y with
  | .int i, .int j => .val (.int (i + j)) s
  | .str a, .str b => if a.length + b.length ≤ 16000000 then .val (.str (a ++ b)) s else .stuck
  | .lst a, .lst b => if a.length + b.length ≤ 16000000 then .val (.lst (a ++ b)) s else .stuck
  | .tup a, .tup b => if a.length + b.length ≤ 16000000 then .val (.tup (a ++ b)) s else .stuck
  | _, _ => .stuck
def rAddU (K : PySem.W.Frag) : R2 := fun x y H Q => ((rI0 fun i j => .int (i + j)) x y H Q ∨ (∃ i j, x = .str i ∧ y = .str j ∧ i.length + j.length ≤ sizeLine ∧ Q (.str (i ++ j)) H)) ∨ (rCat x y H Q ∨ rCatA K x y H Q)
theorem op_addU {X : Cx} : OpR X (binaryOp .Add) (rAddU X.K) := (op_add.or op_add_str).or (op_cat.or op_catA)
theorem okS_app {a b : List Nat} (ha : okS a = true) (hb : okS b = true) : okS (a ++ b) = true := by
  unfold okS at *
  rw [List.all_append, ha, hb]; rfl
theorem Sees.int {K : PySem.W.Frag} {M H : Hp} {i : Int} {v : V} (h : Sees K M H (.int i) v) : v = .int i := by
  have h' : RepF K M (.int i) v := h
  unfold RepF at h'; exact h'
theorem Sees.str {K : PySem.W.Frag} {M H : Hp} {i : List Nat} {v : V} (h : Sees K M H (.str i) v) : v = .str ⟨i.toArray⟩ ∧ okS i = true := by
  have h' : RepF K M (.str i) v := h
  unfold RepF at h'; exact h'
theorem Sees.tup {K : PySem.W.Frag} {M H : Hp} {ds : List D} {v : V} (h : Sees K M H (.tup ds) v) : ∃ a vs, v = .ref a ∧ TupAt K M a vs ∧ RepL K M ds vs := by
  have h' : RepF K M (.tup ds) v := h
  unfold RepF at h'; exact h'
theorem ok_add {K : PySem.W.Frag} : Ok2 K (rAddU K) addG := fun Wx M ι s H x y u v Q C rx ry P => by
  have s1 := C.sees rx
  have s2 := C.sees ry
  unfold addG at P
  split at P
  · rename_i e1 e2
    rw [e1] at s1; rw [e2] at s2
    exact .inl (.inl ⟨_, _, s1.int, s2.int, Post.now (C := Rep K) P C rf_int⟩)
  · rename_i a b e1 e2
    rw [e1] at s1; rw [e2] at s2
    split at P
    · rename_i hl
      obtain ⟨rfl, o1⟩ := s1.str
      obtain ⟨rfl, o2⟩ := s2.str
      refine .inl (.inr ⟨_, _, rfl, rfl, ?_, Post.now (C := Rep K) P C (rf_str' (SX.S_cat a b) (okS_app o1 o2))⟩)
      show (SX.S a).length + (SX.S b).length ≤ sizeLine
      rw [SX.S_len, SX.S_len]; exact lim_le hl
    · exact P.elim
  · rename_i a b e1 e2
    rw [e1] at s1; rw [e2] at s2
    split at P
    · rename_i hl
      obtain ⟨p, vs, rfl, h1, r1⟩ := s1
      obtain ⟨q, us, rfl, h2, r2⟩ := s2
      exact .inr (.inl ⟨p, q, vs, us, rfl, rfl, h1, h2, by rw [r1.length, r2.length]; exact lim_le hl, fun l hl => Post.laidL P C (r1.append r2) hl⟩)
    · exact P.elim
  · rename_i a b e1 e2
    rw [e1] at s1; rw [e2] at s2
    split at P
    · rename_i hl
      obtain ⟨p, vs, rfl, h1, r1⟩ := s1.tup
      obtain ⟨q, us, rfl, h2, r2⟩ := s2.tup
      refine .inr (.inr ⟨p, q, vs, us, rfl, rfl, Ex.t C.sub h1.sq, Ex.t C.sub h2.sq, by rw [r1.length, r2.length]; exact lim_le hl, fun e => ?_, fun _ e => ?_, fun _ _ l hl => Post.laidT P C (r1.append r2) hl⟩)
      · have ea : a = [] := by
          have := r1.length
          rw [e] at this
          exact List.eq_nil_of_length_eq_zero this.symm
        subst ea
        exact Post.now (C := Rep K) P C (Rep.of (by unfold RepF; exact ⟨q, us, rfl, h2, r2⟩))
      · have eb : b = [] := by
          have := r2.length
          rw [e] at this
          exact List.eq_nil_of_length_eq_zero this.symm
        subst eb
        rw [List.append_nil] at P
        exact Post.now (C := Rep K) P C (Rep.of (by unfold RepF; exact ⟨p, vs, rfl, h1, r1⟩))
    · exact P.elim
  · exact P.elim
/-! ### is -/
def isNG : Op2 := fun s x y => match y with
  | .non => match x with
    | .non => .val (.bl true) s
    | _ => .val (.bl false) s
  | .bl b => match x with
    | .bl a => .val (.bl (a == b)) s
    | _ => .stuck
  | _ => .stuck
def isntG : Op2 := fun s x y => match y with
  | .non => match x with
    | .non => .val (.bl false) s
    | _ => .val (.bl true) s
  | .bl b => match x with
    | .bl a => .val (.bl (!(a == b))) s
    | _ => .stuck
  | _ => .stuck
def rIsU : R2 := fun x y H Q => (y = .non ∧ Q (.bl (decide (x = .non))) H) ∨ rIsB x y H Q
def rIsntU : R2 := fun x y H Q => (y = .non ∧ Q (.bl (!decide (x = .non))) H) ∨ rNotB x y H Q
theorem op_isU {X : Cx} : OpR X (compareOp .Is) rIsU := op_isN.or op_isBl
theorem op_isntU {X : Cx} : OpR X (compareOp .IsNot) rIsntU := op_notN.or op_notBl
theorem Rep.notNon {K : PySem.W.Frag} {M : Hp} {ι : List Addr} {x : D} {v : V} (h : Rep K M ι x v) (hx : x ≠ .non) : v ≠ .non := by
  cases x with
  | non => exact absurd rfl hx
  | ob k => obtain ⟨_, rfl, _⟩ := h; exact fun z => nomatch z
  | _ =>
    have h' := h.f rfl
    unfold RepF at h'
    first
      | (subst h'; exact fun z => nomatch z)
      | (obtain ⟨rfl, _⟩ := h'; exact fun z => nomatch z)
      | (obtain ⟨_, _, rfl, _⟩ := h'; exact fun z => nomatch z)
      | (obtain ⟨_, rfl, _⟩ := h'; exact fun z => nomatch z)
theorem ok_is {K : PySem.W.Frag} : Ok2 K rIsU isNG := fun Wx M ι s H x y u v Q C rx ry P => by
  unfold isNG at P
  split at P
  · split at P
    · cases rx.non
      exact .inl ⟨ry.non, Post.now (C := Rep K) P C rf_bl⟩
    · rename_i h1
      refine .inl ⟨ry.non, ?_⟩
      rw [decide_eq_false (rx.notNon h1)]
      exact Post.now (C := Rep K) P C rf_bl
  · split at P
    · refine .inr ⟨_, _, rx.bl, ry.bl, Post.now (C := Rep K) P C ?_⟩
      rename_i b _ a
      rw [show decide (a = b) = (a == b) by cases a <;> cases b <;> rfl]
      exact rf_bl
    · exact P.elim
  · exact P.elim
theorem ok_isnt {K : PySem.W.Frag} : Ok2 K rIsntU isntG := fun Wx M ι s H x y u v Q C rx ry P => by
  unfold isntG at P
  split at P
  · split at P
    · cases rx.non
      exact .inl ⟨ry.non, Post.now (C := Rep K) P C rf_bl⟩
    · rename_i h1
      refine .inl ⟨ry.non, ?_⟩
      rw [decide_eq_false (rx.notNon h1)]
      exact Post.now (C := Rep K) P C rf_bl
  · split at P
    · refine .inr ⟨_, _, rx.bl, ry.bl, Post.now (C := Rep K) P C ?_⟩
      rename_i b _ a
      rw [show decide (a = b) = (a == b) by cases a <;> cases b <;> rfl]
      exact rf_bl
    · exact P.elim
  · exact P.elim
/-! ### items -/
theorem Reps.atI {K : PySem.W.Frag} {M : Hp} {ι : List Addr} {ds : List D} {vs : List V} (r : Reps K M ι ds vs) {i : Int} {d : D} (h : L2.atI ds i = some d) : ∃ v, L2.atI vs i = some v ∧ Rep K M ι d v := by
  unfold L2.atI at h ⊢
  rw [r.length]
  cases e : ixN ds.length i with
  | none => rw [e] at h; cases h
  | some j =>
    rw [e] at h
    exact r.get h
theorem Looks.str {K : PySem.W.Frag} {M : Hp} {ι : List Addr} {H : Hp} {i : List Nat} {v : V} (h : Looks K M ι H (.str i) v) : v = .str ⟨i.toArray⟩ ∧ okS i = true := by
  have h' : RepF K M (.str i) v := h
  unfold RepF at h'; exact h'
theorem Looks.tup {K : PySem.W.Frag} {M : Hp} {ι : List Addr} {H : Hp} {ds : List D} {v : V} (h : Looks K M ι H (.tup ds) v) : ∃ a vs, v = .ref a ∧ TupAt K M a vs ∧ RepL K M ds vs := by
  have h' : RepF K M (.tup ds) v := h
  unfold RepF at h'; exact h'
theorem RepL.atI {K : PySem.W.Frag} {M : Hp} {ds : List D} {vs : List V} (r : RepL K M ds vs) {i : Int} {d : D} (h : L2.atI ds i = some d) : ∃ v, L2.atI vs i = some v ∧ RepF K M d v := by
  unfold L2.atI at h ⊢
  rw [r.length]
  cases e : ixN ds.length i with
  | none => rw [e] at h; cases h
  | some j =>
    rw [e] at h
    exact r.get h
def ixG : Op2 := fun s x y => match look s x, y with
  | .lst ds, .int i => match atI ds i with
    | some d => .val d s
    | none => .stuck
  | .tup ds, .int i => match atI ds i with
    | some d => .val d s
    | none => .stuck
  | .str cs, .int i => if cs.length ≤ 16000000 then match atI cs i with
      | some c => .val (.str [c]) s
      | none => .stuck
    else .stuck
  | _, _ => .stuck
def rIxU (K : PySem.W.Frag) : R2 := fun x y H Q => (rIxL K x y H Q ∨ rIxT K x y H Q) ∨ rIxS x y H Q
theorem ix_U {X : Cx} : IxR X (rIxU X.K) := (ix_list.or ix_tup).or ix_str
theorem okS_mem {cs : List Nat} (h : okS cs = true) {c : Nat} (m : c ∈ cs) : okS [c] = true := by
  unfold okS at *
  simp only [List.all_eq_true, List.mem_singleton] at h ⊢
  rintro x rfl
  exact h _ m
theorem atI_mem {α : Type} {xs : List α} {i : Int} {v : α} (h : atI xs i = some v) : v ∈ xs := by
  obtain ⟨j, _, h2, _⟩ := atI_get h
  exact List.mem_of_getElem? h2
theorem ok_ix {K : PySem.W.Frag} : Ok2 K (rIxU K) ixG := fun Wx M ι s H x y u v Q C rx ry P => by
  have s1 := C.looks rx
  unfold ixG at P
  split at P
  · rename_i e
    rw [e] at s1
    split at P
    · rename_i d h
      obtain ⟨a, vs, rfl, h1, r1⟩ := s1
      obtain ⟨w, h2, h3⟩ := r1.atI h
      exact .inl (.inl ⟨a, vs, _, w, rfl, ry.int, SqL.of h1, h2, Post.now (C := Rep K) P C h3⟩)
    · exact P.elim
  · rename_i e
    rw [e] at s1
    split at P
    · rename_i d h
      obtain ⟨a, vs, rfl, h1, r1⟩ := s1.tup
      obtain ⟨w, h2, h3⟩ := r1.atI h
      exact .inl (.inr ⟨a, vs, _, w, rfl, ry.int, Ex.t C.sub h1.sq, h2, Post.now (C := Rep K) P C (Rep.of h3)⟩)
    · exact P.elim
  · rename_i cs i e
    rw [e] at s1
    split at P
    · rename_i hl
      split at P
      · rename_i c h
        obtain ⟨rfl, o⟩ := s1.str
        refine .inr ⟨_, _, c, rfl, ry.int, ?_, ?_, Post.now (C := Rep K) P C (rf_str (okS_mem o (atI_mem h)))⟩
        · show (SX.S cs).length ≤ sizeLine
          rw [SX.S_len]; exact lim_le hl
        · simpa using h
      · exact P.elim
    · exact P.elim
  · exact P.elim
/-- o[i] = v -/
def setI (fo fi : EF) : GF := fun d δ s => (fo δ s).bind fun x s1 => (fi δ s1).bind fun y s2 => match x, y with
  | .ob k, .int i => match s2[k]? with
    | some (.lst ds) => match ixN ds.length i with
      | some j => .val δ (s2.set k (.lst (ds.set j d)))
      | none => .stuck
    | _ => .stuck
  | _, _ => .stuck
theorem Rep.ob {K : PySem.W.Frag} {M : Hp} {ι : List Addr} {k : Nat} {v : V} (h : Rep K M ι (.ob k) v) : ∃ a, v = .ref a ∧ ι[k]? = some a := h
theorem jg_set {X : Cx} {cl : Nat → Value} {o i : Expr} {pos : Pos} {fo fi : EF} (ho : JE X cl (fun _ _ _ _ => False) o fo) (hi : JE X cl (fun _ _ _ _ => False) i fi)
    (ha : ∀ v, assign (.Subscript o i pos) X.env v = (do
      let ov ← holding [v] (eval o X.env)
      let iv ← holding [v, ov] (eval i X.env)
      standAt pos
      holding [v, ov, iv] (setItem ov iv v)
      release [v, ov, iv] []) := by intro _; rfl) : JG X (.Subscript o i pos) (setI fo fi) := (pg_sub ho hi set_list ha).imp fun v σ H Q h => by
  obtain ⟨M, ι, δ, s, d, C, S, r, P⟩ := h
  refine ⟨M, ι, δ, s, C, S, Post.mono (Post.bind (Rep X.K) P) fun u H1 m => ?_⟩
  obtain ⟨M1, ι1, x, s1, t1, C1, r1, P1⟩ := m.ex
  refine ⟨M1, ι1, δ, s1, C1, S.step t1, Post.mono (Post.bind (Rep X.K) P1) fun w H2 m => ?_⟩
  obtain ⟨M2, ι2, y, s2, t2, C2, r2, P2⟩ := m.ex
  revert P2
  split
  · rename_i k i
    split
    · rename_i ds e
      split
      · rename_i j hj
        intro P2
        obtain ⟨a, rfl, hk⟩ := (r1.step t2).ob
        obtain ⟨hM, vs, h1, r3⟩ := C2.obs k a _ hk e
        refine ⟨a, vs, _, j, rfl, r2.int, h1, by rw [r3.length]; exact hj, ?_⟩
        have r4 : Rep X.K M2 ι2 d v := (r.step t1).step t2
        obtain ⟨C3, t3⟩ := C2.put (o := .lst (vs.set j v)) (u := .lst (ds.set j d)) hk hM ⟨hM, _, upd_same, r3.set r4 j⟩
        exact P2 M2 ι2 _ σ t3 C3 (((S.step t1).step t2).step t3)
      · exact fun P2 => P2.elim
    · exact fun P2 => P2.elim
  · exact fun P2 => P2.elim
/-! ### len, int, isinstance, list -/
def lenG (s : Sto) : List D → O D
  | [x] => match look s x with
    | .lst ds => .val (.int ds.length) s
    | .tup ds => .val (.int ds.length) s
    | .scr ds => .val (.int ds.length) s
    | .str cs => if cs.length ≤ 16000000 then .val (.int cs.length) s else .stuck
    | _ => .stuck
  | _ => .stuck
theorem Reps.one {K : PySem.W.Frag} {M : Hp} {ι : List Addr} {x : D} {us : List V} (h : Reps K M ι [x] us) : ∃ u, us = [u] ∧ Rep K M ι x u := by
  cases h with
  | cons a b => cases b; exact ⟨_, rfl, a⟩
theorem Reps.two {K : PySem.W.Frag} {M : Hp} {ι : List Addr} {x y : D} {us : List V} (h : Reps K M ι [x, y] us) : ∃ u w, us = [u, w] ∧ Rep K M ι x u ∧ Rep K M ι y w := by
  cases h with
  | cons a b => obtain ⟨w, rfl, c⟩ := b.one; exact ⟨_, w, rfl, a, c⟩
def rLenU (K : PySem.W.Frag) : List V → Hp → VK → Prop := fun xs H Q => ∃ x n, xs = [x] ∧ LenV K x H n ∧ Q (.int n) H
theorem ok_len {K : PySem.W.Frag} : OkN K (rLenU K) lenG := fun Wx M ι s H xs us Q C r P => by
  unfold lenG at P
  split at P
  · rename_i x
    obtain ⟨u, rfl, rx⟩ := r.one
    have s1 := C.looks rx
    split at P
    · rename_i ds e
      rw [e] at s1
      obtain ⟨a, vs, rfl, h1, r1⟩ := s1
      exact ⟨_, ds.length, rfl, .inl ⟨vs, SqL.of h1, r1.length.symm⟩, Post.now (C := Rep K) P C rf_int⟩
    · rename_i ds e
      rw [e] at s1
      obtain ⟨a, vs, rfl, h1, r1⟩ := s1.tup
      exact ⟨_, ds.length, rfl, .inr ⟨vs, Ex.t C.sub h1.sq, r1.length.symm⟩, Post.now (C := Rep K) P C rf_int⟩
    · rename_i ns e
      rw [e] at s1
      have s2 : RepF K M (.scr ns) u := s1
      unfold RepF at s2
      obtain ⟨a, rfl, h1⟩ := s2
      exact ⟨_, ns.length, rfl, .inl ⟨_, Ex.l C.sub h1, by simp⟩, Post.now (C := Rep K) P C rf_int⟩
    · rename_i cs e
      rw [e] at s1
      split at P
      · rename_i hl
        obtain ⟨rfl, o⟩ := s1.str
        refine ⟨_, cs.length, rfl, ?_, Post.now (C := Rep K) P C rf_int⟩
        exact ⟨by show (SX.S cs).length ≤ sizeLine; rw [SX.S_len]; exact lim_le hl, (SX.S_len cs).symm⟩
      · exact P.elim
    · exact P.elim
  · exact P.elim
def intOf (s : Sto) : List D → O D
  | [.bl b] => .val (.int (if b then 1 else 0)) s
  | [.int i] => .val (.int i) s
  | _ => .stuck
def rInt1 : List V → Hp → VK → Prop := fun xs H Q => (∃ i, xs = [.int i] ∧ Q (.int i) H) ∨ ∃ k, xs = [.bl k] ∧ Q (.int (if k then 1 else 0)) H
theorem ok_intOf {K : PySem.W.Frag} : OkN K rInt1 intOf := fun Wx M ι s H xs us Q C r P => by
  unfold intOf at P
  split at P
  · obtain ⟨u, rfl, rx⟩ := r.one
    exact .inr ⟨_, by rw [rx.bl], Post.now (C := Rep K) P C rf_int⟩
  · obtain ⟨u, rfl, rx⟩ := r.one
    exact .inl ⟨_, by rw [rx.int], Post.now (C := Rep K) P C rf_int⟩
  · exact P.elim
/-- the type of data, as told -/
def tyD : D → Option String
  | .non => some "NoneType"
  | .bl _ => some "bool"
  | .int _ => some "int"
  | .str _ => some "str"
  | .tup _ => some "tuple"
  | .lst _ => some "list"
  | .scr _ => some "list"
  | _ => none
def isT (d : D) (T : String) : Option Bool := match tyD d with
  | some t => kitB t T
  | none => none
theorem Sees.ty {K : PySem.W.Frag} {M H : Hp} (m : Ex M H) {d : D} {v : V} {t : String} (h : Sees K M H d v) (e : tyD d = some t) : TyX K H v (.type t) := by
  cases d with
  | non => cases e; have h' : RepF K M .non v := h; unfold RepF at h'; subst h'; exact .base .non
  | bl b => cases e; have h' : RepF K M (.bl b) v := h; unfold RepF at h'; subst h'; exact .base (.bl b)
  | int b => cases e; cases h.int; exact .base (.int b)
  | str b => cases e; obtain ⟨rfl, _⟩ := h.str; exact .base (.str _)
  | tup ds =>
    cases e
    obtain ⟨a, vs, rfl, h1, _⟩ := h.tup
    rcases h1 with h1 | ⟨o, its, n, h1, h2, _⟩
    · exact .base (.tup (m _ _ h1))
    · exact .kTuple h1 h2
  | lst ds => cases e; obtain ⟨a, vs, rfl, h1, _⟩ := h; exact .base (.lst h1)
  | scr ns =>
    cases e
    have h' : RepF K M (.scr ns) v := h
    unfold RepF at h'
    obtain ⟨a, rfl, h1⟩ := h'
    rcases h1 with (h1 | ⟨o, h1⟩) | ⟨o, its, n, h1, h2, _⟩
    · exact .base (.lst (m _ _ h1))
    · exact .base (.frz (m _ _ h1))
    · exact .kList h1 h2
  | ty _ => cases e
  | ob _ => cases e
def isiG (s : Sto) : List D → O D
  | [x, .ty T] => match isT (view s x) T with
    | some b => .val (.bl b) s
    | none => .stuck
  | [x, .tup [.ty T, .ty U]] => match isT (view s x) T with
    | some true => .val (.bl true) s
    | some false => match isT (view s x) U with
      | some b => .val (.bl b) s
      | none => .stuck
    | none => .stuck
  | _ => .stuck
def rIsiU (K : PySem.W.Frag) : List V → Hp → VK → Prop := fun xs H Q => rIsi K xs H Q ∨ rIsiT K xs H Q ∨ rIsiK K xs H Q
theorem CallR.or {X : Cx} {f : Value} {r r' : List V → Hp → VK → Prop} (h : CallR X f r) (h' : CallR X f r') : CallR X f (fun xs H Q => r xs H Q ∨ r' xs H Q) := by
  intro pins s σ H xs us Q I rs q
  rcases q with q | q
  · exact h pins s σ H xs us Q I rs q
  · exact h' pins s σ H xs us Q I rs q
theorem call_isiU {X : Cx} : CallR X (.builtin "isinstance") (rIsiU X.K) := CallR.or call_isi (CallR.or call_isiT call_isiK)
theorem kit_any2 {K : PySem.W.Frag} {t T U : String} {b b' : Bool} (h1 : kitB t T = some b) (h2 : b = false → kitB t U = some b') : PySem.W.kitAny K (.type t) [.type T, .type U] = some (b || b') := by
  refine kitAny_cons (kit_ty h1) (fun hb => ?_) fun hb => by rw [hb]; rfl
  rw [hb, Bool.false_or]
  refine kitAny_cons (kit_ty (h2 hb)) (fun hb' => ?_) fun hb' => hb'
  rw [hb']; rfl
theorem ok_isi {K : PySem.W.Frag} : OkN K (rIsiU K) isiG := fun Wx M ι s H xs us Q C r P => by
  unfold isiG at P
  split at P
  · rename_i x T
    obtain ⟨u, w, rfl, rx, rw'⟩ := r.two
    have s1 := C.sees rx
    have w1 : RepF K M (.ty T) w := rw'
    unfold RepF at w1
    subst w1
    split at P
    · rename_i b e
      unfold isT at e
      split at e
      · rename_i t et
        exact .inl ⟨u, .ty T, _, _, b, rfl, .ty T, s1.ty C.sub et, kit_ty e, Post.now (C := Rep K) P C rf_bl⟩
      · cases e
    · exact P.elim
  · rename_i x T U
    obtain ⟨u, w, rfl, rx, rw'⟩ := r.two
    have s1 := C.sees rx
    obtain ⟨a, vs, rfl, h1, r1⟩ := rw'.tup
    obtain ⟨v1, r2, rfl, q1, q2⟩ := r1.uncons
    obtain ⟨v2, r3, rfl, q3, q4⟩ := q2.uncons
    cases q4.unnil
    unfold RepF at q1 q3
    subst q1 q3
    have main : ∀ b : Bool, (∃ t, tyD (view s x) = some t ∧ PySem.W.kitAny K (.type t) [.type T, .type U] = some b) → Q (.bl b) H → rIsiU K [u, .ref a] H Q := by
      rintro b ⟨t, et, hk⟩ q
      rcases h1 with h1 | ⟨o, its, n, h1, h2, h3, h4, h5⟩
      · exact .inr (.inl ⟨u, a, _, _, _, b, rfl, C.sub _ _ h1, .cons (.ty T) (.cons (.ty U) .nil), s1.ty C.sub et, hk, q⟩)
      · obtain ⟨oc, od, dt, sl⟩ := o
        simp only at h2 h3
        subst h2 h3
        have e5 : its.toList = [.type T, .type U] := ClsV.all (.cons (.ty T) (.cons (.ty U) .nil)) h5
        have e6 : its = ([Value.type T, .type U] : List Value).toArray := by rw [← e5]
        subst e6
        exact .inr (.inr ⟨u, a, od, _, n, sl, _, b, rfl, h1, s1.ty C.sub et, hk, q⟩)
    unfold isT at P
    split at P
    · rename_i e
      split at e
      · rename_i t et
        exact main true ⟨t, et, kit_any2 (b' := true) e (fun z => nomatch z)⟩ (Post.now (C := Rep K) P C rf_bl)
      · cases e
    · rename_i e
      split at e
      · rename_i t et
        rw [et] at P
        split at P
        · rename_i b e2
          exact main b ⟨t, et, by have := kit_any2 (K := K) e (fun _ => e2); simpa using this⟩ (Post.now (C := Rep K) P C rf_bl)
        · exact P.elim
      · cases e
    · exact P.elim
  · exact P.elim
/-- list(x), one that stands for good -/
def listF (s : Sto) : List D → O D
  | [x] => match view s x with
    | .lst ds => .val (.lst ds) s
    | .tup ds => .val (.lst ds) s
    | .scr ns => .val (.lst (ns.map D.int)) s
    | _ => .stuck
  | _ => .stuck
def rListU (K : PySem.W.Frag) : List V → Hp → VK → Prop := fun xs H Q => ∃ p ys, xs = [.ref p] ∧ (SqL K H p ys ∨ SqT K H p ys) ∧ ∀ l, H l = none → Q (.ref l) (upd H l (.lst ys))
theorem RepL.ints {K : PySem.W.Frag} {M : Hp} : ∀ ns : List Int, RepL K M (ns.map D.int) (ns.map V.int)
  | [] => .nil
  | n :: ns => .cons (by unfold RepF; rfl) (RepL.ints ns)
theorem ok_list {K : PySem.W.Frag} : OkN K (rListU K) listF := fun Wx M ι s H xs us Q C r P => by
  unfold listF at P
  split at P
  · obtain ⟨u, rfl, rx⟩ := r.one
    have s1 := C.sees rx
    split at P
    · rename_i ds e
      rw [e] at s1
      obtain ⟨a, vs, rfl, h1, r1⟩ := s1
      exact ⟨a, vs, rfl, .inl (SqL.of h1), fun l hl => Post.laidL P C r1 hl⟩
    · rename_i ds e
      rw [e] at s1
      obtain ⟨a, vs, rfl, h1, r1⟩ := s1.tup
      exact ⟨a, vs, rfl, .inr (Ex.t C.sub h1.sq), fun l hl => Post.laidL P C r1 hl⟩
    · rename_i ns e
      rw [e] at s1
      have s2 : RepF K M (.scr ns) u := s1
      unfold RepF at s2
      obtain ⟨a, rfl, h1⟩ := s2
      exact ⟨a, _, rfl, .inl (Ex.l C.sub h1), fun l hl => Post.laidL P C (RepL.ints ns) hl⟩
    · exact P.elim
  · exact P.elim
end Fl
set_option Elab.async false
set_option linter.all false
set_option maxRecDepth 100000
namespace Fl
open PySem PySem.Spec PyProof.Rows L2
abbrev W0 : WX := fun _ _ _ _ => False
section
variable {X : Cx} {cl : Nat → Value} {W : WX} {st : Stmt} {sts : List Stmt} {e a b : Expr} {es : List Expr} {fa fb : EF} {fr : AF} {ff fg : SF} {pos : Pos}
/-! ### small statements -/
theorem rd_go {α β : Type} {K : PySem.W.Frag} (C : Car α β) {D : Ends} {f : Sl → Sto → O α} {k : Sl → α → Sto → OS} {σ : L2.St} {H : Hp} (h : rdS K cl W (fun δ s => (f δ s).go δ (k δ)) D σ H) :
    At K C (wx cl W σ) f σ H fun b H' => ∃ M ι δ s a, Conc K M ι s H' ∧ RepS K M ι δ σ ∧ C M ι a b ∧ PostS K cl W D M ι H' (k δ a s) := by
  obtain ⟨M, ι, δ, s, Cc, S, P⟩ := h
  refine ⟨M, ι, δ, s, Cc, S, Post.mono (PostS.go C S P) fun b H' m => ?_⟩
  obtain ⟨M', ι', a, s', t, C', r, P'⟩ := m.ex
  exact ⟨M', ι', δ, s', a, C', S.step t, r, P'⟩
def setS (i : Nat) (f : EF) : SF := fun δ s => (f δ s).go δ fun d s1 => .nx (δ.set i (some d)) s1
theorem rd_set {K : PySem.W.Frag} {te : TE} {f : EF} {i : Nat} (imp : ∀ σ H Q, rdE K cl W f σ H Q → te σ H Q) (D : Ends) (σ : L2.St) (H : Hp) (h : rdS K cl W (setS i f) D σ H) : tAsg te (gName i) D σ H := by
  obtain ⟨M, ι, δ, s, C, S, P⟩ := rd_go (Rep K) h
  refine imp σ H _ ⟨M, ι, δ, s, C, S, Post.mono P fun v H1 h => ?_⟩
  obtain ⟨M1, ι1, δ1, s1, d, C1, S1, r1, P1⟩ := h
  exact P1 M1 ι1 H1 _ Step.refl C1 (S1.set r1 i)
theorem js_set {i : Nat} {x : Str} {pos' : Pos} (hN : X.N.Nodup) (he : JE X cl W e fa) (hi : X.N[i]? = some x := by rfl) (hx : Loc X.env.scope x := by first | exact Or.inl rfl | exact Or.inr rfl) (hs : swapsWith e (some (.Name x pos')) pos.line X.env = pure false := by rfl)
    (hf : X.fn x = true ∨ X.env.scope.names.lookup x = some .local := by first | exact .inl rfl | exact .inr rfl | assumption) : JS X cl W (.Assign [.Name x pos'] e pos) (setS i fa) :=
  (ps_set hN hi hx he hs hf).imp fun D σ H h => rd_set (fun _ _ _ q => q) D σ H h
def asgS (f : EF) (g : GF) : SF := fun δ s => (f δ s).go δ fun d s1 => (g d δ s1).go δ fun δ' s2 => .nx δ' s2
theorem PostS.tg {K : PySem.W.Frag} {D : Ends} {M : Hp} {ι : List Addr} {H : Hp} {o : O Sl} {δ : Sl} {k : Sl → Sto → OS} (h : PostS K cl W D M ι H (o.go δ k)) (nx : ∀ c s, o ≠ .exc c s) : Post K (RepS K) (fun _ _ => False) M ι H o fun σ' H' => ∃ M' ι' δ' s', Step M ι H M' ι' H' ∧ Conc K M' ι' s' H' ∧ RepS K M' ι' δ' σ' ∧ PostS K cl W D M' ι' H' (k δ' s') := by
  cases o with
  | stuck => exact h
  | val δ' s' => exact fun M' ι' H' σ' t c r => ⟨M', ι', δ', s', t, c, r, PostS.step h t⟩
  | exc c s => exact absurd rfl (nx c s)
/-- a target raises nothing -/
def noX (o : O Sl) : O Sl := match o with
  | .exc _ _ => .stuck
  | o => o
theorem noX_ne {o : O Sl} : ∀ c s, noX o ≠ .exc c s := fun c s => by cases o <;> simp [noX]
theorem Post.noX {K : PySem.W.Frag} {C : Car Sl L2.St} {Wx Wx' : Nat → Hp → Prop} {M : Hp} {ι : List Addr} {H : Hp} {o : O Sl} {Q : L2.St → Hp → Prop} (h : Post K C Wx M ι H (noX o) Q) : Post K C Wx' M ι H o Q := by
  cases o with
  | stuck => exact h
  | val a s => exact h
  | exc c s => exact h.elim
def asgS' (f : EF) (g : GF) : SF := fun δ s => (f δ s).go δ fun d s1 => (noX (g d δ s1)).go δ fun δ' s2 => .nx δ' s2
theorem js_asg {tg : Expr} {g : GF} (he : JE X cl W e fa) (hg : JG X tg g) (hs : swapsWithSole [tg] e pos.line X.env = pure false := by rfl) (hw : swappedStores [tg] e X.env = pure none := by rfl)
    (h1 : (assignEach [tg] X.env).map (·.2) = [assign tg X.env] := by rfl) : JS X cl W (.Assign [tg] e pos) (asgS' fa g) := (ps_asg he hg hs hw h1).imp fun D σ H h => by
  obtain ⟨M, ι, δ, s, C, S, P⟩ := rd_go (Rep X.K) h
  refine ⟨M, ι, δ, s, C, S, Post.mono P fun v H1 h => ?_⟩
  obtain ⟨M1, ι1, δ1, s1, d, C1, S1, r1, P1⟩ := h
  refine ⟨M1, ι1, δ1, s1, d, C1, S1, r1, Post.noX (Post.mono (PostS.tg P1 noX_ne) fun σ' H' h => ?_)⟩
  obtain ⟨M2, ι2, δ2, s2, t2, C2, S2, P2⟩ := h
  exact P2 M2 ι2 H' σ' Step.refl C2 S2
def nameG (i : Nat) : GF := fun d δ s => .val (δ.set i (some d)) s
theorem jg_name {i : Nat} {x : Str} {p : Pos} (hN : X.N.Nodup) (hi : X.N[i]? = some x := by rfl) (hx : Loc X.env.scope x := by first | exact Or.inl rfl | exact Or.inr rfl) (hf : X.fn x = true ∨ X.env.scope.names.lookup x = some .local := by first | exact .inl rfl | exact .inr rfl | assumption) :
    JG X (.Name x p) (nameG i) := (pg_name hN hi hx hf).imp fun v σ H Q h => by
  obtain ⟨M, ι, δ, s, d, C, S, r, P⟩ := h
  exact Post.now (C := RepS X.K) P C (S.set r i)
/-- several targets -/
def unp : List GF → List D → Sl → Sto → O Sl
  | [], [], δ, s => .val δ s
  | g :: gs, d :: ds, δ, s => (noX (g d δ s)).bind fun δ1 s1 => unp gs ds δ1 s1
  | _, _, _, _ => .stuck
def rdGs (K : PySem.W.Frag) (gs : List GF) : TGs := fun vs σ H Q => ∃ M ι δ s ds, Conc K M ι s H ∧ RepS K M ι δ σ ∧ Reps K M ι ds vs ∧ Post K (RepS K) (fun _ _ => False) M ι H (unp gs ds δ s) Q
abbrev JGs (X : Cx) (es : List Expr) (gs : List GF) : Prop := PGs X es (rdGs X.K gs)
theorem _root_.L2.PGs.imp {es : List Expr} {t t' : TGs} (h : PGs X es t) (i : ∀ v σ H Q, t' v σ H Q → t v σ H Q) : PGs X es t' := ⟨fun pins s σ H v u Q I r q => h.run pins s σ H v u Q I r (i v σ H Q q)⟩
theorem jgs_nil : JGs X [] [] := pgs_nil.imp fun vs σ H Q h => by
  obtain ⟨M, ι, δ, s, ds, C, S, r, P⟩ := h
  cases r with
  | nil => exact ⟨rfl, Post.now (C := RepS X.K) P C S⟩
  | cons _ _ => exact P.elim
theorem jgs_cons {g : GF} {gs : List GF} (h1 : JG X e g) (h2 : JGs X es gs) (hs : (assignEach (e :: es) X.env).map (·.2) = assign e X.env :: (assignEach es X.env).map (·.2) := by rfl) : JGs X (e :: es) (g :: gs) := (pgs_cons h1 h2 hs).imp fun vs σ H Q h => by
  obtain ⟨M, ι, δ, s, ds, C, S, r, P⟩ := h
  cases r with
  | nil => exact P.elim
  | cons r1 r2 =>
    refine ⟨_, _, rfl, M, ι, δ, s, _, C, S, r1, Post.noX (Post.mono (Post.bind (RepS X.K) P) fun σ' H' m => ?_)⟩
    obtain ⟨M1, ι1, δ1, s1, t1, C1, S1, P1⟩ := m.ex
    exact ⟨M1, ι1, δ1, s1, _, C1, S1, r2.step t1, P1⟩
def tupG (gs : List GF) : GF := fun d δ s => match d with
  | .tup ds => if ds.length = gs.length then unp gs ds δ s else .stuck
  | _ => .stuck
theorem jg_tup {gs : List GF} {k : Nat} (hc : X.calm = true) (h : JGs X es gs) (hn : (assignEach es X.env).length = gs.length := by rfl) (hst : (assignEach es X.env).findIdx? (·.1) = none := by rfl) : JG X (.Tuple es k pos) (tupG gs) := (pg_tup hc h hn hst).imp fun v σ H Q h => by
  obtain ⟨M, ι, δ, s, d, C, S, r, P⟩ := h
  unfold tupG at P
  split at P
  · split at P
    · rename_i ds hl
      obtain ⟨p, vs, rfl, h1, r1⟩ := r.tup
      exact ⟨p, vs, rfl, Ex.t C.sub h1.sq, by rw [r1.length]; exact hl, M, ι, δ, s, ds, C, S, Reps.of r1, P⟩
    · exact P.elim
  · exact P.elim
def parS (i j : Nat) (f : AF) : SF := fun δ s => (f δ s).go δ fun ds s1 => match ds with
  | [x, y] => .nx ((δ.set i (some x)).set j (some y)) s1
  | _ => .stuck
theorem js_par {i j : Nat} {x y : Str} {px py pt : Pos} {kt k2 : Nat} {pt2 : Pos} (hc : X.calm = true) (hN : X.N.Nodup) (hij : i ≠ j) (ha : JA X cl W [a, b] fr) (hi : X.N[i]? = some x := by rfl) (hj : X.N[j]? = some y := by rfl)
    (hx : X.env.scope.names.lookup x = some .local := by rfl) (hy : X.env.scope.names.lookup y = some .local := by rfl)
    (hw : swappedStores [.Tuple [.Name x px, .Name y py] kt pt] (.Tuple [a, b] k2 pt2) X.env = pure (some [x, y]) := by rfl)
    (hs : swapsWithSole [.Tuple [.Name x px, .Name y py] kt pt] (.Tuple [a, b] k2 pt2) pos.line X.env = pure false := by rfl) :
    JS X cl W (.Assign [.Tuple [.Name x px, .Name y py] kt pt] (.Tuple [a, b] k2 pt2) pos) (parS i j fr) := (ps_par hc hN hi hj hij hx hy ha hw hs).imp fun D σ H h => by
  obtain ⟨M, ι, δ, s, C, S, P⟩ := rd_go (Reps X.K) h
  refine ⟨M, ι, δ, s, C, S, Post.mono P fun vs H1 h => ?_⟩
  obtain ⟨M1, ι1, δ1, s1, ds, C1, S1, r1, P1⟩ := h
  split at P1
  · obtain ⟨u, w, rfl, r2, r3⟩ := r1.two
    exact ⟨u, w, rfl, P1 M1 ι1 H1 _ Step.refl C1 ((S1.set r2 i).set r3 j)⟩
  · exact P1.elim
def par3S (i j l : Nat) (f : AF) : SF := fun δ s => (f δ s).go δ fun ds s1 => match ds with
  | [x, y, z] => .nx (((δ.set i (some x)).set j (some y)).set l (some z)) s1
  | _ => .stuck
theorem Reps.three {K : PySem.W.Frag} {M : Hp} {ι : List Addr} {x y z : D} {us : List V} (h : Reps K M ι [x, y, z] us) : ∃ u v w, us = [u, v, w] ∧ Rep K M ι x u ∧ Rep K M ι y v ∧ Rep K M ι z w := by
  cases h with
  | cons a b => obtain ⟨v, w, rfl, c, d⟩ := b.two; exact ⟨_, v, w, rfl, a, c, d⟩
theorem js_par3 {c : Expr} {i j l : Nat} {x y z : Str} {px py pz pt : Pos} {kt k2 : Nat} {pt2 : Pos} (hc : X.calm = true) (hN : X.N.Nodup) (hij : i ≠ j) (hil : i ≠ l) (hjl : j ≠ l) (ha : JA X cl W [a, b, c] fr) (hi : X.N[i]? = some x := by rfl) (hj : X.N[j]? = some y := by rfl) (hl : X.N[l]? = some z := by rfl)
    (hx : X.env.scope.names.lookup x = some .local := by rfl) (hy : X.env.scope.names.lookup y = some .local := by rfl) (hz : X.env.scope.names.lookup z = some .local := by rfl)
    (hw : swappedStores [.Tuple [.Name x px, .Name y py, .Name z pz] kt pt] (.Tuple [a, b, c] k2 pt2) X.env = pure (some [x, y, z]) := by rfl)
    (hs : swapsWithSole [.Tuple [.Name x px, .Name y py, .Name z pz] kt pt] (.Tuple [a, b, c] k2 pt2) pos.line X.env = pure false := by rfl) :
    JS X cl W (.Assign [.Tuple [.Name x px, .Name y py, .Name z pz] kt pt] (.Tuple [a, b, c] k2 pt2) pos) (par3S i j l fr) := (ps_par3 hc hN hi hj hl hij hil hjl hx hy hz ha hw hs).imp fun D σ H h => by
  obtain ⟨M, ι, δ, s, C, S, P⟩ := rd_go (Reps X.K) h
  refine ⟨M, ι, δ, s, C, S, Post.mono P fun vs H1 h => ?_⟩
  obtain ⟨M1, ι1, δ1, s1, ds, C1, S1, r1, P1⟩ := h
  split at P1
  · obtain ⟨u, v, w, rfl, r2, r3, r4⟩ := r1.three
    exact ⟨u, v, w, rfl, P1 M1 ι1 H1 _ Step.refl C1 (((S1.set r2 i).set r3 j).set r4 l)⟩
  · exact P1.elim
/-- x -= e, x += e of ints -/
def augS (g : Int → Int → Int) (i : Nat) (f : EF) : SF := fun δ s => match δ[i]? with
  | some (some (.int x)) => (f δ s).go δ fun d s1 => match d with
    | .int y => .nx (δ.set i (some (.int (g x y)))) s1
    | _ => .stuck
  | _ => .stuck
theorem js_aug {i : Nat} {x : Str} {op : Operator} {g : Int → Int → Int} {pos' : Pos} (hN : X.N.Nodup) (ho : PIp X op (ipI g)) (he : JE X cl W e fa) (hi : X.N[i]? = some x := by rfl) (hx : Loc X.env.scope x := by first | exact Or.inl rfl | exact Or.inr rfl)
    (hf : X.fn x = true ∨ X.env.scope.names.lookup x = some .local := by first | exact .inl rfl | exact .inr rfl | assumption) : JS X cl W (.AugAssign (.Name x pos') op e pos) (augS g i fa) := (ps_aug hN hi hx he ho hf).imp fun D σ H h => by
  obtain ⟨M, ι, δ, s, C, S, P⟩ := h
  unfold augS at P
  split at P
  · rename_i x e
    obtain ⟨v, h1, h2⟩ := S.2 i _ e
    cases h2.int
    refine ⟨_, h1, M, ι, δ, s, C, S, Post.mono (PostS.go (Rep X.K) S P) fun u H1 m => ?_⟩
    obtain ⟨M1, ι1, d, s1, t1, C1, r1, P1⟩ := m.ex
    split at P1
    · cases r1.int
      exact ⟨_, _, rfl, rfl, P1 M1 ι1 H1 _ Step.refl C1 ((S.step t1).set rf_int i)⟩
    · exact P1.elim
  · exact P.elim
def dropS (f : EF) : SF := fun δ s => (f δ s).go δ fun _ s1 => .nx δ s1
theorem js_expr (he : JE X cl W e fa) (hs : swapsWith e none pos.line X.env = pure false := by rfl) : JS X cl W (.Expr e pos) (dropS fa) := (ps_expr he hs).imp fun D σ H h => by
  obtain ⟨M, ι, δ, s, C, S, P⟩ := rd_go (Rep X.K) h
  refine ⟨M, ι, δ, s, C, S, Post.mono P fun v H1 h => ?_⟩
  obtain ⟨M1, ι1, δ1, s1, d, C1, S1, r1, P1⟩ := h
  exact P1 M1 ι1 H1 _ Step.refl C1 S1
def retS (f : EF) : SF := fun δ s => (f δ s).go δ fun d s1 => .rt d s1
theorem js_ret (he : JE X cl W e fa) : JS X cl W (.Return (some e) pos) (retS fa) := (ps_ret he).imp fun D σ H h => by
  obtain ⟨M, ι, δ, s, C, S, P⟩ := rd_go (Rep X.K) h
  refine ⟨M, ι, δ, s, C, S, Post.mono P fun v H1 h => ?_⟩
  obtain ⟨M1, ι1, δ1, s1, d, C1, S1, r1, P1⟩ := h
  exact P1 M1 ι1 H1 _ Step.refl C1 r1
def passS : SF := fun δ s => .nx δ s
def brkS : SF := fun δ s => .bk δ s
def ctS : SF := fun δ s => .ct δ s
def retN : SF := fun _ s => .rt .non s
theorem js_pass : JS X cl W (.Pass pos) passS := ps_pass.imp fun D σ H h => by
  obtain ⟨M, ι, δ, s, C, S, P⟩ := h
  exact P M ι H σ Step.refl C S
theorem js_brk : JS X cl W (.Break pos) brkS := ps_break.imp fun D σ H h => by
  obtain ⟨M, ι, δ, s, C, S, P⟩ := h
  exact P M ι H σ Step.refl C S
theorem js_ct : JS X cl W (.Continue pos) ctS := ps_continue.imp fun D σ H h => by
  obtain ⟨M, ι, δ, s, C, S, P⟩ := h
  exact P M ι H σ Step.refl C S
theorem js_retN : JS X cl W (.Return none pos) retN := ps_retN.imp fun D σ H h => by
  obtain ⟨M, ι, δ, s, C, S, P⟩ := h
  exact P M ι H .non Step.refl C rf_non
/-! ### blocks, if -/
def seqS (f g : SF) : SF := fun δ s => (f δ s).then g
theorem PostS.then {K : PySem.W.Frag} {D : Ends} {M : Hp} {ι : List Addr} {H : Hp} {o : OS} {g : SF} (h : PostS K cl W D M ι H (o.then g)) : PostS K cl W { D with nx := rdS K cl W g D } M ι H o := by
  cases o with
  | nx δ s => exact fun M' ι' H' σ' t c r => ⟨M', ι', δ, s, c, r, PostS.step h t⟩
  | _ => exact h
theorem jss_nil : JSs X cl W [] passS := pss_nil.imp fun D σ H h => by
  obtain ⟨M, ι, δ, s, C, S, P⟩ := h
  exact P M ι H σ Step.refl C S
theorem jss_one (h : JS X cl W st ff) : JSs X cl W [st] ff := pss_one h
theorem jss_cons (h : JS X cl W st ff) (h2 : JSs X cl W sts fg) : JSs X cl W (st :: sts) (seqS ff fg) := (pss_cons h h2).imp fun D σ H h => by
  obtain ⟨M, ι, δ, s, C, S, P⟩ := h
  exact ⟨M, ι, δ, s, C, S, PostS.then P⟩
def ifS (t : BF) (f g : SF) : SF := fun δ s => (t δ s).go δ fun b s1 => if b = true then f δ s1 else g δ s1
theorem js_if {c : Expr} {sa sb : List Stmt} {t : BF} (hc : JT X cl W c t) (ha : JSs X cl W sa ff) (hb : JSs X cl W sb fg) : JS X cl W (.If c sa sb pos) (ifS t ff fg) := (ps_if hc ha hb).imp fun D σ H h => by
  obtain ⟨M, ι, δ, s, C, S, P⟩ := rd_go CB h
  refine ⟨M, ι, δ, s, C, S, Post.mono P fun b H1 h => ?_⟩
  obtain ⟨M1, ι1, δ1, s1, d, C1, S1, rfl, P1⟩ := h
  cases b with
  | true => exact iteT ⟨M1, ι1, δ1, s1, C1, S1, P1⟩
  | false => exact iteF ⟨M1, ι1, δ1, s1, C1, S1, P1⟩
/-! ### what a loop walks -/
def ItOk (K : PySem.W.Frag) (M : Hp) (J : It) (xs : List D) : Prop := ∀ (i : Nat) (M1 : Hp) (ι1 : List Addr) (s1 : Sto) (H1 : Hp), Ex M M1 → Conc K M1 ι1 s1 H1 →
  (∀ d, xs[i]? = some d → J.go i H1 ∧ ∀ v H2, J.yld i H1 v H2 → ∃ M2, Step M1 ι1 H1 M2 ι1 H2 ∧ Conc K M2 ι1 s1 H2 ∧ Rep K M2 ι1 d v) ∧ (i = xs.length → J.stop i H1)
abbrev CI (K : PySem.W.Frag) : Car (List D) It := fun M _ xs J => ItOk K M J xs
def rdI (K : PySem.W.Frag) (cl : Nat → Value) (W : WX) (f : AF) : TI := fun σ H R => At K (CI K) (wx cl W σ) f σ H R
abbrev JI (X : Cx) (cl : Nat → Value) (W : WX) (tg e : Expr) (f : AF) : Prop := PI X tg e (rdI X.K cl W f)
theorem _root_.L2.PI.imp {tg e : Expr} {t t' : TI} (h : PI X tg e t) (i : ∀ σ H Q, t' σ H Q → t σ H Q) : PI X tg e t' := ⟨fun pins s σ H Q I q => h.run pins s σ H Q I (i σ H Q q)⟩
def loopS (g : GF) (body : SF) : List D → Sl → Sto → OS
  | [], δ, s => .nx δ s
  | x :: xs, δ, s => (noX (g x δ s)).go δ fun δ1 s1 => match body δ1 s1 with
    | .nx δ2 s2 => loopS g body xs δ2 s2
    | .ct δ2 s2 => loopS g body xs δ2 s2
    | .bk δ2 s2 => .nx δ2 s2
    | o => o
def forS (fi : AF) (g : GF) (body : SF) : SF := fun δ s => (fi δ s).go δ fun xs s1 => loopS g body xs δ s1
theorem rd_for {K : PySem.W.Frag} {fi : AF} {g : GF} {body : SF} (D : Ends) (σ : L2.St) (H : Hp) (h : rdS K cl W (forS fi g body) D σ H) : tFor (rdI K cl W fi) (rdG K g) (rdS K cl W body) D σ H := by
  obtain ⟨M, ι, δ, s, C, S, P⟩ := rd_go (CI K) h
  refine ⟨M, ι, δ, s, C, S, Post.mono P fun J H1 h => ?_⟩
  obtain ⟨M1, ι1, δ1, s1, xs, C1, S1, ok, P1⟩ := h
  refine ⟨fun i m σ H => m = xs.length - i ∧ i ≤ xs.length ∧ ∃ M' ι' δ' s', Ex M1 M' ∧ Conc K M' ι' s' H ∧ RepS K M' ι' δ' σ ∧ PostS K cl W D M' ι' H (loopS g body (xs.drop i) δ' s'), ⟨xs.length, by simp, Nat.zero_le _, M1, ι1, δ1, s1, Ex.refl _, C1, S1, P1⟩, ?_⟩
  rintro i m σ H ⟨rfl, hi, M', ι', δ', s', e', C', S', P'⟩
  obtain ⟨ok1, ok2⟩ := ok i M' ι' s' H e' C'
  by_cases hlt : i < xs.length
  · have hx : xs[i]? = some xs[i] := List.getElem?_eq_getElem hlt
    obtain ⟨go, yl⟩ := ok1 _ hx
    rw [List.drop_eq_getElem_cons hlt] at P'
    refine .inr ⟨go, fun σ H => ∃ M2 ι2 δ2 s2, Ex M1 M2 ∧ Conc K M2 ι2 s2 H ∧ RepS K M2 ι2 δ2 σ ∧ PostS K cl W D M2 ι2 H (loopS g body (xs.drop (i + 1)) δ2 s2), fun σ' H' w => ⟨xs.length - (i + 1), by omega, rfl, hlt, w⟩, fun v H2 hy => ?_⟩
    obtain ⟨M2, t2, C2, r2⟩ := yl v H2 hy
    refine ⟨M2, ι', δ', s', xs[i], C2, S'.step t2, r2, Post.noX (Post.mono (PostS.tg (PostS.step P' t2) noX_ne) fun σ3 H3 h => ?_)⟩
    obtain ⟨M3, ι3, δ3, s3, t3, C3, S3, P3⟩ := h
    refine ⟨M3, ι3, δ3, s3, C3, S3, ?_⟩
    have e3 : Ex M1 M3 := Ex.trans e' (Ex.trans t2.mm t3.mm)
    revert P3
    cases body δ3 s3 with
    | stuck => exact fun P3 => P3
    | nx δ4 s4 => exact fun P3 M4 ι4 H4 σ4 t4 C4 S4 => ⟨M4, ι4, δ4, s4, Ex.trans e3 t4.mm, C4, S4, PostS.step P3 t4⟩
    | ct δ4 s4 => exact fun P3 M4 ι4 H4 σ4 t4 C4 S4 => ⟨M4, ι4, δ4, s4, Ex.trans e3 t4.mm, C4, S4, PostS.step P3 t4⟩
    | bk δ4 s4 => exact fun P3 => P3
    | rt d s4 => exact fun P3 => P3
    | exc c δ4 s4 => exact fun P3 => P3
  · have e : i = xs.length := by omega
    refine .inl ⟨ok2 (by omega), ?_⟩
    rw [e, List.drop_length] at P'
    exact P' M' ι' H σ Step.refl C' S'
theorem js_for {tg iter : Expr} {body : List Stmt} {fi : AF} {g : GF} (hp : PassesOwn (model X.prog X.w) X.A X.env X.xe) (hc : X.calm = true) (hi : JI X cl W tg iter fi) (hg : JG X tg g) (hb : JSs X cl W body ff)
    (hs : ∀ x, foldedSetIterable iter X.env x = pure x := by intro _; rfl) : JS X cl W (.For tg iter body [] pos) (forS fi g ff) := (ps_for hp hc hi hg hb hs).imp fun D σ H h => rd_for D σ H h
/-- a list, a tuple, a text, as what it is walked by -/
def walkF (f : EF) : AF := fun δ s => (f δ s).bind fun d s1 => match d with
  | .lst ds => .val ds s1
  | .tup ds => .val ds s1
  | .str cs => .val (cs.map fun c => .str [c]) s1
  | _ => .stuck
def listF' (f : EF) : AF := fun δ s => (f δ s).bind fun d s1 => match d with
  | .lst ds => .val ds s1
  | _ => .stuck
def tupF' (f : EF) : AF := fun δ s => (f δ s).bind fun d s1 => match d with
  | .tup ds => .val ds s1
  | _ => .stuck
def strF' (f : EF) : AF := fun δ s => (f δ s).bind fun d s1 => match d with
  | .str cs => .val (cs.map fun c => .str [c]) s1
  | _ => .stuck
theorem itOk_list {K : PySem.W.Frag} {M : Hp} {a : Addr} {vs : List V} {ds : List D} (h : M a = some (.lst vs)) (r : RepL K M ds vs) : ItOk K M (Itl K a) ds := by
  intro i M1 ι1 s1 H1 e C
  have hH : H1 a = some (.lst vs) := C.sub _ _ (e _ _ h)
  constructor
  · intro d hd
    obtain ⟨v, h1, h2⟩ := r.get hd
    refine ⟨⟨vs, v, SqL.of hH, h1⟩, fun v' H2 y => ?_⟩
    obtain ⟨rfl, y⟩ := y
    have := y vs (SqL.of hH)
    rw [h1] at this; cases this
    exact ⟨M1, Step.refl, C, Rep.of (h2.mono e)⟩
  · intro hi
    exact ⟨vs, SqL.of hH, by rw [r.length]; omega⟩
theorem itOk_tup {K : PySem.W.Frag} {M : Hp} {a : Addr} {vs : List V} {ds : List D} (h : TupAt K M a vs) (r : RepL K M ds vs) : ItOk K M (Itt K a) ds := by
  intro i M1 ι1 s1 H1 e C
  have hH : SqT K H1 a vs := Ex.t C.sub (Ex.t e h.sq)
  constructor
  · intro d hd
    obtain ⟨v, h1, h2⟩ := r.get hd
    refine ⟨⟨vs, v, hH, h1⟩, fun v' H2 y => ?_⟩
    obtain ⟨rfl, y⟩ := y
    have := y vs hH
    rw [h1] at this; cases this
    exact ⟨M1, Step.refl, C, Rep.of (h2.mono e)⟩
  · intro hi
    exact ⟨vs, hH, by rw [r.length]; omega⟩
theorem itOk_str {K : PySem.W.Frag} {M : Hp} {cs : List Nat} (o : okS cs = true) : ItOk K M (Its ⟨cs.toArray⟩) (cs.map fun c => .str [c]) := by
  intro i M1 ι1 s1 H1 e C
  constructor
  · intro d hd
    rw [List.getElem?_map] at hd
    obtain ⟨c, h1, rfl⟩ := Option.map_eq_some_iff.mp hd
    refine ⟨(by have := (List.getElem?_eq_some_iff.mp h1).1; simpa using this : i < cs.toArray.size), fun v' H2 y => ?_⟩
    obtain ⟨rfl, c', h2, rfl⟩ := y
    have : c' = c := by
      simp at h2
      rw [h1] at h2
      exact (Option.some.inj h2).symm
    subst this
    exact ⟨M1, Step.refl, C, rf_str (okS_mem o (List.mem_of_getElem? h1))⟩
  · intro hi
    show cs.toArray.size ≤ i
    have : i = cs.length := by simpa using hi
    simp; omega
theorem ji_list {tg : Expr} (h : JE X cl W e fa) : JI X cl W tg e (listF' fa) := (pi_list h).imp fun σ H R h => by
  obtain ⟨M, ι, δ, s, C, S, P⟩ := h
  refine ⟨M, ι, δ, s, C, S, Post.mono (Post.bind (Rep X.K) P) fun u H1 m => ?_⟩
  obtain ⟨M1, ι1, x, s1, t1, C1, r1, P1⟩ := m.ex
  split at P1
  · obtain ⟨a, vs, rfl, h1, h2⟩ := r1.lst
    exact ⟨a, rfl, ⟨vs, SqL.of (C1.sub _ _ h1)⟩, Post.now (C := CI X.K) P1 C1 (itOk_list h1 h2)⟩
  · exact P1.elim
theorem ji_tup {tg : Expr} (h : JE X cl W e fa) : JI X cl W tg e (tupF' fa) := (pi_tup h).imp fun σ H R h => by
  obtain ⟨M, ι, δ, s, C, S, P⟩ := h
  refine ⟨M, ι, δ, s, C, S, Post.mono (Post.bind (Rep X.K) P) fun u H1 m => ?_⟩
  obtain ⟨M1, ι1, x, s1, t1, C1, r1, P1⟩ := m.ex
  split at P1
  · obtain ⟨a, vs, rfl, h1, h2⟩ := r1.tup
    exact ⟨a, rfl, ⟨vs, Ex.t C1.sub h1.sq⟩, Post.now (C := CI X.K) P1 C1 (itOk_tup h1 h2)⟩
  · exact P1.elim
theorem ji_str {tg : Expr} (h : JE X cl W e fa) : JI X cl W tg e (strF' fa) := (pi_str h).imp fun σ H R h => by
  obtain ⟨M, ι, δ, s, C, S, P⟩ := h
  refine ⟨M, ι, δ, s, C, S, Post.mono (Post.bind (Rep X.K) P) fun u H1 m => ?_⟩
  obtain ⟨M1, ι1, x, s1, t1, C1, r1, P1⟩ := m.ex
  split at P1
  · obtain ⟨rfl, o⟩ := r1.str
    exact ⟨_, rfl, Post.now (C := CI X.K) P1 C1 (itOk_str o)⟩
  · exact P1.elim
def upI (lo : Int) (n : Nat) : List D := (List.range n).map fun (i : Nat) => .int (lo + (i : Int))
def sm (i : Int) : Bool := decide (-(2 ^ 60) ≤ i) && decide (i < 2 ^ 60)
def rng1F (f : AF) : AF := fun δ s => (f δ s).bind fun ds s1 => match ds with
  | [.int j] => if sm j = true then .val (upI 0 j.toNat) s1 else .stuck
  | _ => .stuck
def rng2F (f : AF) : AF := fun δ s => (f δ s).bind fun ds s1 => match ds with
  | [.int i, .int j] => if sm i = true ∧ sm j = true then .val (upI i (j - i).toNat) s1 else .stuck
  | _ => .stuck
theorem itOk_rng {K : PySem.W.Frag} {M : Hp} {lo : Int} {n : Nat} : ItOk K M (Itr lo n) (upI lo n) := by
  intro i M1 ι1 s1 H1 e C
  constructor
  · intro d hd
    unfold upI at hd
    rw [List.getElem?_map] at hd
    obtain ⟨j, h1, rfl⟩ := Option.map_eq_some_iff.mp hd
    have hi : i < n := by have := (List.getElem?_eq_some_iff.mp h1).1; simpa using this
    have hj : j = i := by rw [List.getElem?_range hi] at h1; exact (Option.some.inj h1).symm
    subst hj
    refine ⟨hi, fun v' H2 y => ?_⟩
    obtain ⟨rfl, rfl⟩ := y
    exact ⟨M1, Step.refl, C, rf_int⟩
  · intro hi
    show n ≤ i
    have : i = n := by simpa [upI] using hi
    omega
theorem sm_lt {j : Int} (h : sm j = true) : -(2 ^ 62) ≤ j ∧ j < 2 ^ 62 := by
  unfold sm at h
  simp only [Bool.and_eq_true, decide_eq_true_eq] at h
  omega
theorem ji_range1 {tg : Expr} {p : Pos} (hg : Gl X "range") (hm : X.mg "range" = none) (ha : JA X cl W [a] fr) (hs : starEach [a] X.env = [(false, eval a X.env)] := by rfl) : JI X cl W tg (.Call (.Name "range" p) [a] [] pos) (rng1F fr) := (pi_range1 hg hm ha hs).imp fun σ H R h => by
  obtain ⟨M, ι, δ, s, C, S, P⟩ := h
  refine ⟨M, ι, δ, s, C, S, Post.mono (Post.bind (Reps X.K) P) fun u H1 m => ?_⟩
  obtain ⟨M1, ι1, x, s1, t1, C1, r1, P1⟩ := m.ex
  split at P1
  · split at P1
    · rename_i j hj
      obtain ⟨u, rfl, r2⟩ := r1.one
      cases r2.int
      exact ⟨j, rfl, (sm_lt hj).1, (sm_lt hj).2, Post.now (C := CI X.K) P1 C1 itOk_rng⟩
    · exact P1.elim
  · exact P1.elim
theorem ji_range2 {tg : Expr} {p : Pos} (hg : Gl X "range") (hm : X.mg "range" = none) (ha : JA X cl W [a, b] fr) (hs : starEach [a, b] X.env = [(false, eval a X.env), (false, eval b X.env)] := by rfl) (hs2 : starEach [b] X.env = [(false, eval b X.env)] := by rfl) :
    JI X cl W tg (.Call (.Name "range" p) [a, b] [] pos) (rng2F fr) := (pi_range2 hg hm ha hs hs2).imp fun σ H R h => by
  obtain ⟨M, ι, δ, s, C, S, P⟩ := h
  refine ⟨M, ι, δ, s, C, S, Post.mono (Post.bind (Reps X.K) P) fun u H1 m => ?_⟩
  obtain ⟨M1, ι1, x, s1, t1, C1, r1, P1⟩ := m.ex
  split at P1
  · split at P1
    · rename_i i j hj
      obtain ⟨u, w, rfl, r2, r3⟩ := r1.two
      cases r2.int
      cases r3.int
      exact ⟨i, j, rfl, ⟨(sm_lt hj.1).1, (sm_lt hj.1).2, (sm_lt hj.2).1, (sm_lt hj.2).2⟩, Post.now (C := CI X.K) P1 C1 itOk_rng⟩
    · exact P1.elim
  · exact P1.elim
/-! ### list comprehensions -/
def wipeD (δ : Sl) : List Nat → Sl
  | [] => δ
  | v :: vs => (wipeD δ vs).set v none
theorem wipe_get (σ : L2.St) (j : Nat) : ∀ vs : List Nat, (wipe σ vs)[j]? = if j ∈ vs then σ[j]?.map fun _ => none else σ[j]?
  | [] => by simp [wipe]
  | v :: vs => by
    unfold wipe
    by_cases h : v = j
    · subst h
      have ih := wipe_get σ v vs
      rw [if_pos (by simp)]
      by_cases hl : v < σ.length
      · rw [List.getElem?_set_self (by rw [wipe_length]; exact hl), List.getElem?_eq_getElem hl]; rfl
      · rw [List.getElem?_eq_none (by rw [List.length_set, wipe_length]; omega), List.getElem?_eq_none (by omega)]; rfl
    · rw [List.getElem?_set_ne h, wipe_get σ j vs]
      simp [Ne.symm h]
theorem wipe_set {σ : L2.St} {i : Nat} {x : Option V} {vs : List Nat} (h : i ∈ vs) : wipe (σ.set i x) vs = wipe σ vs := by
  apply List.ext_getElem?
  intro j
  rw [wipe_get, wipe_get]
  by_cases hj : j ∈ vs
  · rw [if_pos hj, if_pos hj]
    by_cases e : i = j
    · subst e
      rw [List.getElem?_set]
      simp
      split <;> simp [*]
    · rw [List.getElem?_set_ne e]
  · rw [if_neg hj, if_neg hj, List.getElem?_set_ne (fun e => hj (by rw [← e]; exact h))]
theorem wipe_wipe {σ : L2.St} {vs : List Nat} : wipe (wipe σ vs) vs = wipe σ vs := by
  apply List.ext_getElem?
  intro j
  rw [wipe_get, wipe_get]
  by_cases hj : j ∈ vs
  · rw [if_pos hj, if_pos hj]; simp [Function.comp_def]
  · rw [if_neg hj, if_neg hj]
theorem RepS.wipe {K : PySem.W.Frag} {M : Hp} {ι : List Addr} {δ : Sl} {σ : L2.St} (h : RepS K M ι δ σ) : ∀ vs : List Nat, RepS K M ι (wipeD δ vs) (L2.wipe σ vs)
  | [] => h
  | v :: vs => by
    obtain ⟨h1, h2⟩ := RepS.wipe h vs
    refine ⟨by unfold wipeD L2.wipe; simp [h1], fun i d e => ?_⟩
    unfold wipeD at e
    unfold L2.wipe
    by_cases hi : v = i
    · subst hi
      rw [List.getElem?_set] at e
      simp at e
    · rw [List.getElem?_set_ne hi] at e ⊢
      exact h2 i d e
/-- targets of a comprehension: its own names -/
def rdGC (K : PySem.W.Frag) (vs : List Nat) (g : GF) : TG := fun v σ H Q => ∃ M ι δ s d, Conc K M ι s H ∧ RepS K M ι δ σ ∧ Rep K M ι d v ∧ Post K (RepS K) (fun _ _ => False) M ι H (g d δ s) fun σ' H' => L2.wipe σ' vs = L2.wipe σ vs → Q σ' H'
abbrev JC (X : Cx) (vs : List Nat) (e : Expr) (g : GF) : Prop := PG X e (rdGC X.K vs g)
theorem jc_name {vs : List Nat} {i : Nat} {x : Str} {p : Pos} (hN : X.N.Nodup) (hv : i ∈ vs := by decide) (hi : X.N[i]? = some x := by rfl) (hx : Loc X.env.scope x := by first | exact Or.inl rfl | exact Or.inr rfl) (hf : X.fn x = true ∨ X.env.scope.names.lookup x = some .local := by first | exact .inl rfl | exact .inr rfl | assumption) :
    JC X vs (.Name x p) (nameG i) := (pg_name hN hi hx hf).imp fun v σ H Q h => by
  obtain ⟨M, ι, δ, s, d, C, S, r, P⟩ := h
  exact Post.now (C := RepS X.K) P C (S.set r i) (wipe_set hv)
def rdGCs (K : PySem.W.Frag) (vs : List Nat) (gs : List GF) : TGs := fun us σ H Q => ∃ M ι δ s ds, Conc K M ι s H ∧ RepS K M ι δ σ ∧ Reps K M ι ds us ∧ Post K (RepS K) (fun _ _ => False) M ι H (unp gs ds δ s) fun σ' H' => L2.wipe σ' vs = L2.wipe σ vs → Q σ' H'
abbrev JCs (X : Cx) (vs : List Nat) (es : List Expr) (gs : List GF) : Prop := PGs X es (rdGCs X.K vs gs)
theorem jcs_nil {vs : List Nat} : JCs X vs [] [] := pgs_nil.imp fun us σ H Q h => by
  obtain ⟨M, ι, δ, s, ds, C, S, r, P⟩ := h
  cases r with
  | nil => exact ⟨rfl, Post.now (C := RepS X.K) P C S rfl⟩
  | cons _ _ => exact P.elim
theorem jcs_cons {vs : List Nat} {g : GF} {gs : List GF} (h1 : JC X vs e g) (h2 : JCs X vs es gs) (hs : (assignEach (e :: es) X.env).map (·.2) = assign e X.env :: (assignEach es X.env).map (·.2) := by rfl) : JCs X vs (e :: es) (g :: gs) := (pgs_cons h1 h2 hs).imp fun us σ H Q h => by
  obtain ⟨M, ι, δ, s, ds, C, S, r, P⟩ := h
  cases r with
  | nil => exact P.elim
  | cons r1 r2 =>
    refine ⟨_, _, rfl, M, ι, δ, s, _, C, S, r1, Post.noX (Post.mono (Post.bind (RepS X.K) P) fun σ' H' m w => ?_)⟩
    obtain ⟨M1, ι1, δ1, s1, t1, C1, S1, P1⟩ := m.ex
    exact ⟨M1, ι1, δ1, s1, _, C1, S1, r2.step t1, Post.mono P1 fun σ2 H2 q w2 => q (w2.trans w)⟩
theorem jc_tup {vs : List Nat} {gs : List GF} {k : Nat} (hc : X.calm = true) (h : JCs X vs es gs) (hn : (assignEach es X.env).length = gs.length := by rfl) (hst : (assignEach es X.env).findIdx? (·.1) = none := by rfl) : JC X vs (.Tuple es k pos) (tupG gs) := (pg_tup hc h hn hst).imp fun v σ H Q h => by
  obtain ⟨M, ι, δ, s, d, C, S, r, P⟩ := h
  unfold tupG at P
  split at P
  · split at P
    · rename_i ds hl
      obtain ⟨p, us, rfl, h1, r1⟩ := r.tup
      exact ⟨p, us, rfl, Ex.t C.sub h1.sq, by rw [r1.length]; exact hl, M, ι, δ, s, ds, C, S, Reps.of r1, P⟩
    · exact P.elim
  · exact P.elim
/-- nothing raised within -/
def quiet {α : Type} (o : O α) : O α := match o with
  | .exc _ _ => .stuck
  | o => o
theorem Post.quiet {α β : Type} {K : PySem.W.Frag} {C : Car α β} {Wx Wx' : Nat → Hp → Prop} {M : Hp} {ι : List Addr} {H : Hp} {o : O α} {Q : β → Hp → Prop} (h : Post K C Wx M ι H (quiet o) Q) : Post K C Wx' M ι H o Q := by
  cases o with
  | stuck => exact h
  | val a s => exact h
  | exc c s => exact h.elim
def loopQ (q : D → Bool) (g : GF) (t : BF) (e : EF) (δ : Sl) : List D → List D → Sto → O (List D)
  | [], acc, s => .val acc s
  | x :: xs, acc, s => (noX (g x δ s)).bind fun δ1 s1 => (quiet (t δ1 s1)).bind fun b s2 =>
    if b = true then (quiet (e δ1 s2)).bind fun d s3 => if q d = true ∧ acc.length < 16000000 then loopQ q g t e δ xs (acc ++ [d]) s3 else .stuck
    else loopQ q g t e δ xs acc s2
def anyD (_ : D) : Bool := true
/-- of data that stand for good -/
def loopC (g : GF) (t : BF) (e : EF) (δ : Sl) (xs acc : List D) (s : Sto) : O (List D) := loopQ flat g t e δ xs acc s
/-- of any -/
def loopA (g : GF) (t : BF) (e : EF) (δ : Sl) (xs acc : List D) (s : Sto) : O (List D) := loopQ anyD g t e δ xs acc s
@[simp] theorem loopC_nil {g : GF} {t : BF} {e : EF} {δ : Sl} {acc : List D} {s : Sto} : loopC g t e δ [] acc s = .val acc s := rfl
@[simp] theorem loopC_cons {g : GF} {t : BF} {e : EF} {δ : Sl} {x : D} {xs acc : List D} {s : Sto} : loopC g t e δ (x :: xs) acc s = (noX (g x δ s)).bind fun δ1 s1 => (quiet (t δ1 s1)).bind fun b s2 =>
    if b = true then (quiet (e δ1 s2)).bind fun d s3 => if flat d = true ∧ acc.length < 16000000 then loopC g t e δ xs (acc ++ [d]) s3 else .stuck
    else loopC g t e δ xs acc s2 := rfl
@[simp] theorem loopA_nil {g : GF} {t : BF} {e : EF} {δ : Sl} {acc : List D} {s : Sto} : loopA g t e δ [] acc s = .val acc s := rfl
theorem loopA_cons {g : GF} {t : BF} {e : EF} {δ : Sl} {x : D} {xs acc : List D} {s : Sto} : loopA g t e δ (x :: xs) acc s = (noX (g x δ s)).bind fun δ1 s1 => (quiet (t δ1 s1)).bind fun b s2 =>
    if b = true then (quiet (e δ1 s2)).bind fun d s3 => if acc.length < 16000000 then loopA g t e δ xs (acc ++ [d]) s3 else .stuck
    else loopA g t e δ xs acc s2 := by
  simp only [loopA, loopQ, anyD, true_and]
def compF (fi : AF) (vs : List Nat) (g : GF) (t : BF) (e : EF) : EF := fun δ s => (fi δ s).bind fun xs s1 => (loopC g t e (wipeD δ vs) xs [] s1).bind fun ds s2 => .val (.lst ds) s2
/-- a list of one's own -/
def compO (fi : AF) (vs : List Nat) (g : GF) (t : BF) (e : EF) : EF := fun δ s => (fi δ s).bind fun xs s1 => (loopA g t e (wipeD δ vs) xs [] s1).bind fun ds s2 => .val (.ob s2.length) (s2 ++ [.lst ds])
theorem Step.own {M M' : Hp} {ι ι' : List Addr} {H H' : Hp} {p : Addr} {o : HO} (t : Step M ι H M' ι' H') (h : H p = none) : Step M ι H M' ι' (upd H' p o) :=
  ⟨t.mm, t.ii, fun a u e n => by rw [upd_ne (ne_of_none e h)]; exact t.fr a u e n, t.im, t.mn⟩
/-- p is on the way: nobody's, and holds acc -/
structure Way (K : PySem.W.Frag) (M1 : Hp) (ι1 : List Addr) (H1 : Hp) (p : Addr) (acc : List D) (M : Hp) (ι : List Addr) (s : Sto) (H : Hp) : Prop where
  st : Step M1 ι1 H1 M ι H
  C : Conc K M ι s H
  np : H1 p = none
  nM : M p = none
  ni : p ∉ ι
  at_ : ∃ vs, H p = some (.lst vs) ∧ Reps K M ι acc vs
theorem Way.start {K : PySem.W.Frag} {M1 : Hp} {ι1 : List Addr} {s : Sto} {H1 : Hp} {p : Addr} (C : Conc K M1 ι1 s H1) (h : H1 p = none) : Way K M1 ι1 H1 p [] M1 ι1 s (upd H1 p (.lst [])) := by
  obtain ⟨hM, hi⟩ := C.fresh h
  obtain ⟨C1, t1⟩ := C.over (o := .lst []) h
  exact ⟨t1, C1, h, hM, hi, [], upd_same, .nil⟩
theorem Way.go {K : PySem.W.Frag} {M1 : Hp} {ι1 : List Addr} {H1 : Hp} {p : Addr} {acc : List D} {M M' : Hp} {ι ι' : List Addr} {s s' : Sto} {H H' : Hp} (w : Way K M1 ι1 H1 p acc M ι s H) (t : Step M ι H M' ι' H') (C : Conc K M' ι' s' H') : Way K M1 ι1 H1 p acc M' ι' s' H' := by
  obtain ⟨vs, h1, h2⟩ := w.at_
  have there : H p ≠ none := by rw [h1]; simp
  refine ⟨w.st.trans t, C, w.np, ?_, fun z => ?_, vs, t.fr p _ h1 w.ni, h2.step t⟩
  · cases e : M' p with
    | none => rfl
    | some o =>
      rcases t.mn p (by rw [e]; simp) with z | z | z
      · exact absurd w.nM z
      · exact absurd z w.ni
      · exact absurd z there
  · rcases t.im p z with q | q
    · exact w.ni q
    · exact there q
theorem Way.put {K : PySem.W.Frag} {M1 : Hp} {ι1 : List Addr} {H1 : Hp} {p : Addr} {acc : List D} {M : Hp} {ι : List Addr} {s : Sto} {H : Hp} {d : D} {v : V} {vs : List V} (w : Way K M1 ι1 H1 p acc M ι s H) (hp : H p = some (.lst vs)) (hr : Reps K M ι acc vs) (r : Rep K M ι d v) : Way K M1 ι1 H1 p (acc ++ [d]) M ι s (upd H p (.lst (vs ++ [v]))) :=
  ⟨w.st.own w.np, w.C.own w.nM w.ni, w.np, w.nM, w.ni, _, upd_same, hr.append (.cons r .nil)⟩
theorem Way.froz {K : PySem.W.Frag} {M1 : Hp} {ι1 : List Addr} {H1 : Hp} {p : Addr} {acc : List D} {M : Hp} {ι : List Addr} {s : Sto} {H : Hp} {Wx : Nat → Hp → Prop} {Q : VK} (w : Way K M1 ι1 H1 p acc M ι s H) (f : ∀ d ∈ acc, flat d = true) (P : Post K (Rep K) Wx M1 ι1 H1 (.val (.lst acc) s) Q) : Q (.ref p) H := by
  obtain ⟨vs, h1, h2⟩ := w.at_
  have C' := w.C.freeze w.nM w.ni h1
  refine P (upd M p (.lst vs)) ι H _ ⟨Ex.trans w.st.mm (Ex.new w.nM), w.st.ii, w.st.fr, w.st.im, fun a e => ?_⟩ C' (Rep.of (by unfold RepF; exact ⟨p, vs, rfl, upd_same, (h2.flat (by unfold flats; rw [List.all_eq_true]; exact f)).mono (Ex.new w.nM)⟩))
  by_cases q : a = p
  · subst q; exact .inr (.inr w.np)
  · rw [upd_ne q] at e; exact w.st.mn a e
theorem Way.owned {K : PySem.W.Frag} {M1 : Hp} {ι1 : List Addr} {H1 : Hp} {p : Addr} {acc : List D} {M : Hp} {ι : List Addr} {s : Sto} {H : Hp} {Wx : Nat → Hp → Prop} {Q : VK} (w : Way K M1 ι1 H1 p acc M ι s H) (_ : ∀ d ∈ acc, anyD d = true) (P : Post K (Rep K) Wx M1 ι1 H1 (.val (.ob s.length) (s ++ [.lst acc])) Q) : Q (.ref p) H := by
  obtain ⟨vs, h1, h2⟩ := w.at_
  have C' : Conc K M (ι ++ [p]) (s ++ [.lst acc]) H := w.C.join w.ni ⟨w.nM, vs, h1, h2.mono (Ex.refl M) ii_app⟩
  refine P M (ι ++ [p]) H _ ⟨w.st.mm, fun k a h => ii_app k a (w.st.ii k a h), w.st.fr, fun a h => ?_, w.st.mn⟩ C' ⟨p, rfl, by rw [← w.C.len]; simp⟩
  rcases List.mem_append.mp h with h | h
  · exact w.st.im a h
  · obtain rfl : a = p := by simpa using h
    exact .inr w.np
theorem rd_lcx {K : PySem.W.Frag} {q : D → Bool} {fi : AF} {vs : List Nat} {g : GF} {t : BF} {f : EF} {fin : List D → Sto → O D}
    (hfin : ∀ {M1 : Hp} {ι1 : List Addr} {H1 : Hp} {p : Addr} {acc : List D} {M : Hp} {ι : List Addr} {s : Sto} {H : Hp} {Wx : Nat → Hp → Prop} {Q : VK}, Way K M1 ι1 H1 p acc M ι s H → (∀ d ∈ acc, q d = true) → Post K (Rep K) Wx M1 ι1 H1 (fin acc s) Q → Q (.ref p) H)
    (σ : L2.St) (H : Hp) (Q : VK) (h : rdE K cl W (fun δ s => (fi δ s).bind fun xs s1 => (loopQ q g t f (wipeD δ vs) xs [] s1).bind fin) σ H Q) : tLc (rdI K cl W fi) (rdGC K vs g) (rdT K cl W0 t) (rdE K cl W0 f) vs σ H Q := by
  obtain ⟨M, ι, δ, s, C, S, P⟩ := h
  refine ⟨M, ι, δ, s, C, S, Post.mono (Post.bind (CI K) P) fun J H1 m p hp => ?_⟩
  obtain ⟨M1, ι1, xs, s1, t1, C1, ok, P1⟩ := m.ex
  have S1 := S.step t1
  refine ⟨fun i m H => m = xs.length - i ∧ i ≤ xs.length ∧ ∃ M' ι' s' acc, Way K M1 ι1 H1 p acc M' ι' s' H ∧ (∀ d ∈ acc, q d = true) ∧ Post K (Rep K) (wx cl W σ) M1 ι1 H1 ((loopQ q g t f (wipeD δ vs) (xs.drop i) acc s').bind fin) Q, ⟨xs.length, by simp, Nat.zero_le _, M1, ι1, s1, [], Way.start C1 hp, (fun _ z => nomatch z), P1⟩, ?_⟩
  rintro i m H ⟨rfl, hi, M', ι', s', acc, w, fl, P'⟩
  obtain ⟨ok1, ok2⟩ := ok i M' ι' s' H w.st.mm w.C
  by_cases hlt : i < xs.length
  · obtain ⟨go, yl⟩ := ok1 _ (List.getElem?_eq_getElem hlt)
    rw [List.drop_eq_getElem_cons hlt] at P'
    refine .inr ⟨go, fun H => ∃ M2 ι2 s2 acc2, Way K M1 ι1 H1 p acc2 M2 ι2 s2 H ∧ (∀ d ∈ acc2, q d = true) ∧ Post K (Rep K) (wx cl W σ) M1 ι1 H1 ((loopQ q g t f (wipeD δ vs) (xs.drop (i + 1)) acc2 s2).bind fin) Q, fun H' z => ⟨xs.length - (i + 1), by omega, rfl, hlt, z⟩, fun v H2 hy => ?_⟩
    obtain ⟨M2, t2, C2, r2⟩ := yl v H2 hy
    have w2 := w.go t2 C2
    refine ⟨M2, ι', wipeD δ vs, s', xs[i], C2, (S1.step w2.st).wipe vs, r2, ?_⟩
    unfold loopQ at P'
    revert P'
    cases g xs[i] (wipeD δ vs) s' with
    | stuck => exact fun P' => P'
    | exc c s'' => exact fun P' => P'.elim
    | val δ3 s3 =>
      intro P' M3 ι3 H3 σ3 t3 C3 S3 hw
      have w3 := w2.go t3 C3
      refine ⟨hw.trans wipe_wipe, M3, ι3, δ3, s3, C3, S3, ?_⟩
      have P3 : Post K (Rep K) (wx cl W σ) M1 ι1 H1 (((quiet (t δ3 s3)).bind fun b s2 => if b = true then (quiet (f δ3 s2)).bind fun d s3 => if q d = true ∧ acc.length < 16000000 then loopQ q g t f (wipeD δ vs) (xs.drop (i + 1)) (acc ++ [d]) s3 else .stuck else loopQ q g t f (wipeD δ vs) (xs.drop (i + 1)) acc s2).bind fin) Q := P'
      revert P3
      cases t δ3 s3 with
      | stuck => exact fun P3 => P3
      | exc c s'' => exact fun P3 => P3.elim
      | val b s4 =>
        intro P3 M4 ι4 H4 b' t4 C4 hb
        subst hb
        have w4 := w3.go t4 C4
        cases b' with
        | false => exact iteF ⟨M4, ι4, s4, acc, w4, fl, P3⟩
        | true =>
          refine iteT ⟨M4, ι4, δ3, s4, C4, S3.step t4, ?_⟩
          have P4 : Post K (Rep K) (wx cl W σ) M1 ι1 H1 (((quiet (f δ3 s4)).bind fun d s3 => if q d = true ∧ acc.length < 16000000 then loopQ q g t f (wipeD δ vs) (xs.drop (i + 1)) (acc ++ [d]) s3 else .stuck).bind fin) Q := P3
          revert P4
          cases f δ3 s4 with
          | stuck => exact fun P4 => P4
          | exc c s'' => exact fun P4 => P4.elim
          | val d s5 =>
            intro P4 M5 ι5 H5 y t5 C5 r5
            have w5 := w4.go t5 C5
            have P5 : Post K (Rep K) (wx cl W σ) M1 ι1 H1 ((if q d = true ∧ acc.length < 16000000 then loopQ q g t f (wipeD δ vs) (xs.drop (i + 1)) (acc ++ [d]) s5 else .stuck).bind fin) Q := P4
            by_cases hc : q d = true ∧ acc.length < 16000000
            · rw [if_pos hc] at P5
              obtain ⟨us, h1, h2⟩ := w5.at_
              exact ⟨us, h1, by rw [h2.length]; exact Nat.lt_of_lt_of_le hc.2 (by decide), M5, ι5, s5, acc ++ [d], w5.put h1 h2 r5, (fun d' z => (List.mem_append.mp z).elim (fl d') fun z => by rw [List.mem_singleton.mp z]; exact hc.1), P5⟩
            · rw [if_neg hc] at P5
              exact P5.elim
  · have e : i = xs.length := by omega
    rw [e, List.drop_length] at P'
    exact .inl ⟨ok2 (by omega), hfin w fl P'⟩
theorem rd_lc {K : PySem.W.Frag} {fi : AF} {vs : List Nat} {g : GF} {t : BF} {f : EF} (σ : L2.St) (H : Hp) (Q : VK) (h : rdE K cl W (compF fi vs g t f) σ H Q) : tLc (rdI K cl W fi) (rdGC K vs g) (rdT K cl W0 t) (rdE K cl W0 f) vs σ H Q := rd_lcx (q := flat) (fin := fun ds s2 => .val (.lst ds) s2) Way.froz σ H Q h
theorem rd_lcO {K : PySem.W.Frag} {fi : AF} {vs : List Nat} {g : GF} {t : BF} {f : EF} (σ : L2.St) (H : Hp) (Q : VK) (h : rdE K cl W (compO fi vs g t f) σ H Q) : tLc (rdI K cl W fi) (rdGC K vs g) (rdT K cl W0 t) (rdE K cl W0 f) vs σ H Q := rd_lcx (q := anyD) (fin := fun ds s2 => .val (.ob s2.length) (s2 ++ [SO.lst ds])) Way.owned σ H Q h
def yes : BF := fun _ s => .val true s
abbrev JTs (X : Cx) (cl : Nat → Value) (W : WX) (es : List Expr) (f : BF) : Prop := PTs X es (rdT X.K cl W f)
theorem jts_nil : JTs X cl W [] yes := ⟨fun pins s σ H Q I h => by
  obtain ⟨M, ι, δ, s', C, S, P⟩ := h
  exact pts_nil.run pins s σ H Q I (Post.now (C := CB) P C rfl)⟩
theorem jts_one {t : BF} (h : JT X cl W e t) : JTs X cl W [e] t := pts_one h
theorem je_lc {elt tg iter : Expr} {ifs : List Expr} {scope : Scope} {own : List (Str × Nat)} {vs : List Nat} {fi : AF} {g : GF} {t : BF} {f : EF} (hc : X.calm = true) (hN : X.N.Nodup) (hi : JI X cl W tg iter fi) (ok : BlkOk X.N X.env.scope scope own)
    (hg : ∀ (s : Shared) (H : Hp) (C : Addr) (cls : List (Str × Addr)) (fp : List Addr), JC (X.blk s H scope (compEnvC scope cls C X.env) fp) vs tg g) (ht : ∀ (s : Shared) (H : Hp) (C : Addr) (cls : List (Str × Addr)) (fp : List Addr), JTs (X.blk s H scope (compEnvC scope cls C X.env) fp) cl W0 ifs t)
    (he : ∀ (s : Shared) (H : Hp) (C : Addr) (cls : List (Str × Addr)) (fp : List Addr), JE (X.blk s H scope (compEnvC scope cls C X.env) fp) cl W0 elt f) (hvs : own.map (·.2) = vs := by rfl) (hs : ∀ x, foldedSetIterable iter X.env x = pure x := by intro _; rfl) :
    JE X cl W (.ListComp elt [⟨tg, iter, ifs, 0⟩] scope pos) (compF fi vs g t f) := by
  subst hvs
  exact (pe_lc hc hN hi ok hg ht he hs).imp rd_lc
theorem je_lcO {elt tg iter : Expr} {ifs : List Expr} {scope : Scope} {own : List (Str × Nat)} {vs : List Nat} {fi : AF} {g : GF} {t : BF} {f : EF} (hc : X.calm = true) (hN : X.N.Nodup) (hi : JI X cl W tg iter fi) (ok : BlkOk X.N X.env.scope scope own)
    (hg : ∀ (s : Shared) (H : Hp) (C : Addr) (cls : List (Str × Addr)) (fp : List Addr), JC (X.blk s H scope (compEnvC scope cls C X.env) fp) vs tg g) (ht : ∀ (s : Shared) (H : Hp) (C : Addr) (cls : List (Str × Addr)) (fp : List Addr), JTs (X.blk s H scope (compEnvC scope cls C X.env) fp) cl W0 ifs t)
    (he : ∀ (s : Shared) (H : Hp) (C : Addr) (cls : List (Str × Addr)) (fp : List Addr), JE (X.blk s H scope (compEnvC scope cls C X.env) fp) cl W0 elt f) (hvs : own.map (·.2) = vs := by rfl) (hs : ∀ x, foldedSetIterable iter X.env x = pure x := by intro _; rfl) :
    JE X cl W (.ListComp elt [⟨tg, iter, ifs, 0⟩] scope pos) (compO fi vs g t f) := by
  subst hvs
  exact (pe_lc hc hN hi ok hg ht he hs).imp rd_lcO
theorem js_setLc {i : Nat} {y : Str} {py spos : Pos} {elt tg iter : Expr} {ifs : List Expr} {scope : Scope} {own : List (Str × Nat)} {vs : List Nat} {fi : AF} {g : GF} {t : BF} {f : EF} (hc : X.calm = true) (hN : X.N.Nodup) (hsw : swapsWith (.ListComp elt [⟨tg, iter, ifs, 0⟩] scope pos) (some (.Name y py)) spos.line X.env = pure true) (hi : JI X cl W tg iter fi) (ok : BlkOk X.N X.env.scope scope own)
    (hg : ∀ (s : Shared) (H : Hp) (C : Addr) (cls : List (Str × Addr)) (fp : List Addr), JC (X.blk s H scope (compEnvC scope cls C X.env) fp) vs tg g) (ht : ∀ (s : Shared) (H : Hp) (C : Addr) (cls : List (Str × Addr)) (fp : List Addr), JTs (X.blk s H scope (compEnvC scope cls C X.env) fp) cl W0 ifs t)
    (he : ∀ (s : Shared) (H : Hp) (C : Addr) (cls : List (Str × Addr)) (fp : List Addr), JE (X.blk s H scope (compEnvC scope cls C X.env) fp) cl W0 elt f) (hy : X.N[i]? = some y := by rfl) (hyl : X.env.scope.names.lookup y = some .local := by rfl) (hvs : own.map (·.2) = vs := by rfl) (hs : ∀ x, foldedSetIterable iter X.env x = pure x := by intro _; rfl) :
    JS X cl W (.Assign [.Name y py] (.ListComp elt [⟨tg, iter, ifs, 0⟩] scope pos) spos) (setS i (compF fi vs g t f)) := by
  subst hvs
  exact (ps_setLc hc hN hy hyl hsw hi ok hg ht he hs).imp fun D σ H h => rd_set rd_lc D σ H h
theorem js_setLcO {i : Nat} {y : Str} {py spos : Pos} {elt tg iter : Expr} {ifs : List Expr} {scope : Scope} {own : List (Str × Nat)} {vs : List Nat} {fi : AF} {g : GF} {t : BF} {f : EF} (hc : X.calm = true) (hN : X.N.Nodup) (hsw : swapsWith (.ListComp elt [⟨tg, iter, ifs, 0⟩] scope pos) (some (.Name y py)) spos.line X.env = pure true) (hi : JI X cl W tg iter fi) (ok : BlkOk X.N X.env.scope scope own)
    (hg : ∀ (s : Shared) (H : Hp) (C : Addr) (cls : List (Str × Addr)) (fp : List Addr), JC (X.blk s H scope (compEnvC scope cls C X.env) fp) vs tg g) (ht : ∀ (s : Shared) (H : Hp) (C : Addr) (cls : List (Str × Addr)) (fp : List Addr), JTs (X.blk s H scope (compEnvC scope cls C X.env) fp) cl W0 ifs t)
    (he : ∀ (s : Shared) (H : Hp) (C : Addr) (cls : List (Str × Addr)) (fp : List Addr), JE (X.blk s H scope (compEnvC scope cls C X.env) fp) cl W0 elt f) (hy : X.N[i]? = some y := by rfl) (hyl : X.env.scope.names.lookup y = some .local := by rfl) (hvs : own.map (·.2) = vs := by rfl) (hs : ∀ x, foldedSetIterable iter X.env x = pure x := by intro _; rfl) :
    JS X cl W (.Assign [.Name y py] (.ListComp elt [⟨tg, iter, ifs, 0⟩] scope pos) spos) (setS i (compO fi vs g t f)) := by
  subst hvs
  exact (ps_setLc hc hN hy hyl hsw hi ok hg ht he hs).imp fun D σ H h => rd_set rd_lcO D σ H h
end
/-! ### defs -/
def startD (N : List Str) (ds : List D) : Sl := ds.map some ++ List.replicate (N.length - ds.length) none
/-- as it stands at the end: a list made here, and the lists in it, stand for good -/
def dfz (n : Nat) (s : Sto) : Nat → D → Option D
  | 0, d => if flat d = true then some d else none
  | k + 1, d => match d with
    | .ob j => if n ≤ j then match s[j]? with
        | some (.lst ds) => (ds.mapM (dfz n s k)).map D.lst
        | _ => none
      else none
    | d => some d
open Classical in
/-- a body, as a function: what it made itself is forgotten -/
noncomputable def outF (s : Sto) : OS → O D
  | .rt d s' => if Chk s s' then if low s.length d = true then .val d (s'.take s.length) else match dfz s.length s' 3 d with
      | some d' => .val d' (s'.take s.length)
      | none => .stuck
    else .stuck
  | .nx _ s' => if Chk s s' then .val .non (s'.take s.length) else .stuck
  | .exc c _ s' => if Chk s s' then .exc c (s'.take s.length) else .stuck
  | _ => .stuck
noncomputable def fnF (N : List Str) (n : Nat) (body : SF) : FF := fun ds s => if ds.length = n then outF s (body (startD N ds) s) else .stuck
/-- .. that keeps what it made -/
def outK : OS → O D
  | .rt d s' => .val d s'
  | .nx _ s' => .val .non s'
  | .exc c _ s' => .exc c s'
  | _ => .stuck
def fnK (N : List Str) (n : Nat) (body : SF) : FF := fun ds s => if ds.length = n then outK (body (startD N ds) s) else .stuck
theorem dfz_rep {K : PySem.W.Frag} {M M' : Hp} {ι : List Addr} {s : Sto} {H : Hp} {n : Nat} (C : Conc K M ι s H) (ex : Ex M M') (hm : ∀ (k : Nat) (a : Addr) (ds : List D), n ≤ k → ι[k]? = some a → s[k]? = some (.lst ds) → M' a = H a) :
    ∀ (k : Nat) {d d' : D} {v : V}, Rep K M ι d v → dfz n s k d = some d' → RepF K M' d' v
  | 0, d, d', v, r, e => by
    unfold dfz at e
    split at e
    · rename_i f; cases e; exact (r.f f).mono ex
    · cases e
  | k + 1, d, d', v, r, e => by
    cases d with
    | ob j =>
      unfold dfz at e
      simp only at e
      split at e
      · rename_i hn
        split at e
        · rename_i ds hs
          obtain ⟨es, h1, rfl⟩ := Option.map_eq_some_iff.mp e
          obtain ⟨a, rfl, hj⟩ := r
          obtain ⟨_, vs, h2, h3⟩ := C.obs j a _ hj hs
          have main : ∀ {ds es : List D} {vs : List V}, Reps K M ι ds vs → ds.mapM (dfz n s k) = some es → RepL K M' es vs := by
            intro ds es vs r
            induction r generalizing es with
            | nil => intro h; simp at h; subst h; exact .nil
            | cons a _ ih =>
              intro h
              rw [List.mapM_cons] at h
              obtain ⟨x, hx, h⟩ := Option.bind_eq_some_iff.mp h
              obtain ⟨xs, hxs, h⟩ := Option.bind_eq_some_iff.mp h
              cases h
              exact .cons (dfz_rep C ex hm k a hx) (ih hxs)
          unfold RepF
          exact ⟨a, vs, rfl, by rw [hm j a ds hn hj hs]; exact h2, main h3 h1⟩
        · cases e
      · cases e
    | _ =>
      unfold dfz at e
      cases e
      exact RepF.mono ex r
def SpF (K : PySem.W.Frag) (cl : Nat → Value) (n : Nat) (F : FF) : Sp := fun vs H Q E => ∃ M ι s ds, Conc K M ι s H ∧ Reps K M ι ds vs ∧ ds.length = n ∧ Post K (Rep K) (fun c H' => E (cl c) none H') M ι H (F ds s) Q
/-- a def at its place -/
structure JAt (P : Program) (w : World) (K : PySem.W.Frag) (mg : Str → Option Value) (base : Heap) (cl : Nat → Value) (k : Nat) (f : Addr) (n : Nat) (F : FF) : Prop where
  ex : ∃ (fd : FuncData) (ps : List Str), PySem.W.keepIn K (.ref f) = true ∧ Binds K fd ps [] ∧ FnOk P w K mg base (L2.CX P w) k f fd ps (SpF K cl n F)
/-- .. by its name -/
structure JFn (P : Program) (w : World) (K : PySem.W.Frag) (mg : Str → Option Value) (base : Heap) (cl : Nat → Value) (k : Nat) (x : Str) (n : Nat) (F : FF) : Prop where
  ex : ∃ f : Addr, mg x = some (.ref f) ∧ JAt P w K mg base cl k f n F
abbrev FnP (K : PySem.W.Frag) (x qual : Str) (st : Stmt) (f : Addr) (fd : FuncData) : Prop := FunD K x qual (defArgs st) (defBody st) (defScope st) [] [] f fd
theorem RepS.begun {K : PySem.W.Frag} {M : Hp} {ι : List Addr} {ds : List D} {vs : List V} (N : List Str) (r : Reps K M ι ds vs) : RepS K M ι (startD N ds) (L2.start N vs) := by
  constructor
  · unfold startD L2.start; simp [r.length]
  · intro i d h
    unfold startD at h
    unfold L2.start
    by_cases hi : i < ds.length
    · rw [List.getElem?_append_left (by simpa using hi)] at h
      rw [List.getElem?_append_left (by simpa [r.length] using hi)]
      rw [List.getElem?_map] at h ⊢
      obtain ⟨d', h1, h2⟩ := Option.map_eq_some_iff.mp h
      cases h2
      have : ∀ {ds : List D} {vs : List V} {i : Nat}, Reps K M ι ds vs → ds[i]? = some d → ∃ v, vs[i]? = some v ∧ Rep K M ι d v := by
        intro ds vs i r
        induction r generalizing i with
        | nil => intro h; simp at h
        | cons a _ ih =>
          intro h
          cases i with
          | zero => simp at h; subst h; exact ⟨_, rfl, a⟩
          | succ i => simp at h; simpa using ih h
      obtain ⟨v, h3, h4⟩ := this r h1
      exact ⟨v, by rw [h3]; rfl, h4⟩
    · rw [List.getElem?_append_right (by simpa using hi)] at h
      obtain ⟨h1, h2⟩ := List.getElem?_eq_some_iff.mp h
      simp at h2
section
variable {P : Program} {w : World} {K : PySem.W.Frag} {mg : Str → Option Value} {base : Heap} {cl : Nat → Value}
/-- a def of the text -/
theorem fn_fo {x qual : Str} {st : Stmt} {f : Addr} {fd : FuncData} {N ps : List Str} {k : Nat} {body : SF} (F : FnP K x qual st f fd) (S : FnScope N ps (defScope st))
    (hbody : ∀ (cdv : Value) (A : Around) (outer : List Env) (s : Shared) (H : Hp) (E : XK), Room k (A.deeper (envOfC qual (defScope st) s.heap.objs.size f cdv)) → Takes (cxOf (L2.CX P w) P w K mg base N qual (defScope st) f cdv A outer s H E) (fun cls d _ H => E cls d H) →
      PassesOwn (model P w) (A.deeper (envOfC qual (defScope st) s.heap.objs.size f cdv)) (envOfC qual (defScope st) s.heap.objs.size f cdv) (cxOf (L2.CX P w) P w K mg base N qual (defScope st) f cdv A outer s H E).xe →
      JSs (cxOf (L2.CX P w) P w K mg base N qual (defScope st) f cdv A outer s H E) cl (fun cls d _ H => E cls d H) (defBody st) body) :
    FnOk P w K mg base (L2.CX P w) (k + 1) f fd ps (SpF K cl ps.length (fnF N ps.length body)) := by
  refine F.ok S (fun vs H Q E h => ?_) fun cdv A outer s H vs Q E hr h => ?_
  · obtain ⟨M, ι, s, ds, _, r, e, _⟩ := h
    rw [r.length, e]
  · obtain ⟨M, ι, st', ds, C, r, e, Pq⟩ := h
    refine ⟨rdS K cl (fun cls d _ H => E cls d H) body, ?_, ?_⟩
    · exact hbody cdv A outer s H E hr (takes_of rfl rfl rfl rfl) (passes_of (X := cxOf (L2.CX P w) P w K mg base N qual (defScope st) f cdv A outer s H E) rfl)
    · refine ⟨M, ι, startD N ds, st', C, RepS.begun N r, ?_⟩
      unfold fnF at Pq
      rw [if_pos e] at Pq
      revert Pq
      cases body (startD N ds) st' with
      | stuck => exact fun Pq => Pq
      | bk δ s' => exact fun Pq => Pq.elim
      | ct δ s' => exact fun Pq => Pq.elim
      | nx δ s' =>
        intro Pq M' ι' H' σ' t C' S'
        simp only [outF] at Pq
        split at Pq
        · rename_i ck
          obtain ⟨M2, C2, t2, _, _⟩ := C.back t C' ck
          exact Pq M2 _ H' .non t2 C2 rf_non
        · exact Pq.elim
      | exc c δ s' =>
        intro Pq M' ι' H' σ' t C' S'
        simp only [outF] at Pq
        split at Pq
        · rename_i ck
          obtain ⟨M2, C2, t2, _, _⟩ := C.back t C' ck
          exact Pq M2 _ H' t2 C2
        · exact Pq.elim
      | rt d s' =>
        intro Pq M' ι' H' v t C' r'
        simp only [outF] at Pq
        split at Pq
        · rename_i ck
          obtain ⟨M2, C2, t2, ex, hm⟩ := C.back t C' ck
          split at Pq
          · rename_i hl
            exact Pq M2 _ H' v t2 C2 ((r'.low hl).mono ex fun _ _ q => q)
          · split at Pq
            · rename_i d' hd
              exact Pq M2 _ H' v t2 C2 (Rep.of (dfz_rep C' ex hm 3 r' hd))
            · exact Pq.elim
        · exact Pq.elim
theorem fn_ok {x qual : Str} {st : Stmt} {f : Addr} {fd : FuncData} {N ps : List Str} {k : Nat} {body : SF} (F : FnP K x qual st f fd) (b : Binds K fd ps []) (S : FnScope N ps (defScope st))
    (hbody : ∀ (cdv : Value) (A : Around) (outer : List Env) (s : Shared) (H : Hp) (E : XK), Room k (A.deeper (envOfC qual (defScope st) s.heap.objs.size f cdv)) → Takes (cxOf (L2.CX P w) P w K mg base N qual (defScope st) f cdv A outer s H E) (fun cls d _ H => E cls d H) →
      PassesOwn (model P w) (A.deeper (envOfC qual (defScope st) s.heap.objs.size f cdv)) (envOfC qual (defScope st) s.heap.objs.size f cdv) (cxOf (L2.CX P w) P w K mg base N qual (defScope st) f cdv A outer s H E).xe →
      JSs (cxOf (L2.CX P w) P w K mg base N qual (defScope st) f cdv A outer s H E) cl (fun cls d _ H => E cls d H) (defBody st) body) :
    JAt P w K mg base cl (k + 1) f ps.length (fnF N ps.length body) := ⟨fd, ps, F.kp, b, fn_fo F S hbody⟩
theorem fn_foK {x qual : Str} {st : Stmt} {f : Addr} {fd : FuncData} {N ps : List Str} {k : Nat} {body : SF} (F : FnP K x qual st f fd) (S : FnScope N ps (defScope st))
    (hbody : ∀ (cdv : Value) (A : Around) (outer : List Env) (s : Shared) (H : Hp) (E : XK), Room k (A.deeper (envOfC qual (defScope st) s.heap.objs.size f cdv)) → Takes (cxOf (L2.CX P w) P w K mg base N qual (defScope st) f cdv A outer s H E) (fun cls d _ H => E cls d H) →
      PassesOwn (model P w) (A.deeper (envOfC qual (defScope st) s.heap.objs.size f cdv)) (envOfC qual (defScope st) s.heap.objs.size f cdv) (cxOf (L2.CX P w) P w K mg base N qual (defScope st) f cdv A outer s H E).xe →
      JSs (cxOf (L2.CX P w) P w K mg base N qual (defScope st) f cdv A outer s H E) cl (fun cls d _ H => E cls d H) (defBody st) body) :
    FnOk P w K mg base (L2.CX P w) (k + 1) f fd ps (SpF K cl ps.length (fnK N ps.length body)) := by
  refine F.ok S (fun vs H Q E h => ?_) fun cdv A outer s H vs Q E hr h => ?_
  · obtain ⟨M, ι, s, ds, _, r, e, _⟩ := h
    rw [r.length, e]
  · obtain ⟨M, ι, st', ds, C, r, e, Pq⟩ := h
    refine ⟨rdS K cl (fun cls d _ H => E cls d H) body, ?_, ?_⟩
    · exact hbody cdv A outer s H E hr (takes_of rfl rfl rfl rfl) (passes_of (X := cxOf (L2.CX P w) P w K mg base N qual (defScope st) f cdv A outer s H E) rfl)
    · refine ⟨M, ι, startD N ds, st', C, RepS.begun N r, ?_⟩
      unfold fnK at Pq
      rw [if_pos e] at Pq
      revert Pq
      cases body (startD N ds) st' with
      | stuck => exact fun Pq => Pq
      | bk δ s' => exact fun Pq => Pq.elim
      | ct δ s' => exact fun Pq => Pq.elim
      | nx δ s' => exact fun Pq M' ι' H' σ' t C' S' => Pq M' ι' H' .non t C' rf_non
      | exc c δ s' => exact fun Pq M' ι' H' σ' t C' S' => Pq M' ι' H' t C'
      | rt d s' => exact fun Pq M' ι' H' v t C' r' => Pq M' ι' H' v t C' r'
theorem fn_okK {x qual : Str} {st : Stmt} {f : Addr} {fd : FuncData} {N ps : List Str} {k : Nat} {body : SF} (F : FnP K x qual st f fd) (b : Binds K fd ps []) (S : FnScope N ps (defScope st))
    (hbody : ∀ (cdv : Value) (A : Around) (outer : List Env) (s : Shared) (H : Hp) (E : XK), Room k (A.deeper (envOfC qual (defScope st) s.heap.objs.size f cdv)) → Takes (cxOf (L2.CX P w) P w K mg base N qual (defScope st) f cdv A outer s H E) (fun cls d _ H => E cls d H) →
      PassesOwn (model P w) (A.deeper (envOfC qual (defScope st) s.heap.objs.size f cdv)) (envOfC qual (defScope st) s.heap.objs.size f cdv) (cxOf (L2.CX P w) P w K mg base N qual (defScope st) f cdv A outer s H E).xe →
      JSs (cxOf (L2.CX P w) P w K mg base N qual (defScope st) f cdv A outer s H E) cl (fun cls d _ H => E cls d H) (defBody st) body) :
    JAt P w K mg base cl (k + 1) f ps.length (fnK N ps.length body) := ⟨fd, ps, F.kp, b, fn_foK F S hbody⟩
/-- a def of which nothing is said -/
theorem fn_none {x qual : Str} {st : Stmt} {f : Addr} {fd : FuncData} {N ps : List Str} {k : Nat} (F : FnP K x qual st f fd) (b : Binds K fd ps []) (S : FnScope N ps (defScope st)) : JAt P w K mg base cl k f ps.length (fun _ _ => .stuck) := by
  have no : ∀ vs H Q E, SpF K cl ps.length (fun _ _ => .stuck) vs H Q E → False := fun vs H Q E h => by
    obtain ⟨M, ι, s, ds, _, _, _, e⟩ := h
    exact e
  exact ⟨fd, ps, F.kp, b, fun vs H Q E h => (no _ _ _ _ h).elim, fun A outer s H args us vs Q E _ _ _ _ h => (no _ _ _ _ h).elim⟩
end
def callF (n : Nat) (F : FF) (fr : AF) : EF := fun δ s => (fr δ s).bind fun xs s1 => if xs.length = n then F xs s1 else .stuck
theorem je_call {X : Cx} {cl : Nat → Value} {W : WX} {x : Str} {p pos : Pos} {e : Expr} {es : List Expr} {fr : AF} {n k j : Nat} {F : FF} (J : JFn X.prog X.w X.K X.mg X.base cl k x n F) (hr : Room j X.A) (hk : k ≤ j) (tk : Takes X W) (hg : Gl X x) (ha : JA X cl W (e :: es) fr)
    (hdb : (x == ("__debug__" : Str)) = false := by decide) (he : starEach (e :: es) X.env = (false, eval e X.env) :: starEach es X.env := by rfl) (hpl : (backTo pos (starEach es X.env)).any (·.1) = false := by rfl) :
    JE X cl W (.Call (.Name x p) (e :: es) [] pos) (callF n F fr) := by
  obtain ⟨f, hm, J⟩ := J.ex
  obtain ⟨fd, ps, kp, b, G⟩ := J.ex
  refine (pe_callS G (hr.mono hk) hg hm kp b (fun σ => passAt tk σ) ha hdb he hpl).imp fun σ H Q h => ?_
  obtain ⟨M, ι, δ, s, C, S, Pq⟩ := h
  refine ⟨M, ι, δ, s, C, S, Post.mono (Post.bind (Reps X.K) Pq) fun us H1 m => ?_⟩
  obtain ⟨M1, ι1, xs, s1, t1, C1, r1, P1⟩ := m.ex
  split at P1
  · rename_i hn
    exact ⟨M1, ι1, s1, xs, C1, r1, hn, P1⟩
  · exact P1.elim
/-- the law's own promise -/
theorem law_sp {K : PySem.W.Frag} {cl : Nat → Value} {F : FF} (h : ∀ ns : List Int, ns.length ≤ 63 → ∃ s, F [.scr ns] [] = .val (.bl true) s) (H : Hp) (a : Addr) (ns : List Int) (hl : ns.length ≤ 63) (hS : SqL K H a (ns.map V.int)) :
    SpF K cl 1 F [.ref a] H (fun v _ => v = .bl true) fun _ _ _ => False := by
  obtain ⟨s, e⟩ := h ns hl
  refine ⟨H, [], [], [.scr ns], ⟨Ex.refl H, rfl, List.nodup_nil, fun k a o h => by simp at h⟩, .cons (Rep.of (by unfold RepF; exact ⟨a, rfl, hS⟩)) .nil, rfl, ?_⟩
  rw [e]
  intro M' ι' H' b _ _ r
  exact r.bl
theorem cx_none {P : Program} {w : World} {H : Hp} {s : Shared} {e : Value} {s' : Shared} (h : L2.CX P w [] H s (fun _ _ _ => False) e s') : False := by
  obtain ⟨_, _, _, _, _, _, _, _, _, _, _, _, z⟩ := h
  exact z.elim
end Fl
set_option Elab.async false
set_option linter.all false
set_option maxRecDepth 100000
namespace Fl
open PySem PySem.Spec PyProof.Rows L2
theorem bb_len : bootBuiltins "len" = some (.builtin "len") := by decide +kernel
theorem bb_int : bootBuiltins "int" = some (.type "int") := by decide +kernel
theorem bb_str : bootBuiltins "str" = some (.type "str") := by decide +kernel
theorem bb_bool : bootBuiltins "bool" = some (.type "bool") := by decide +kernel
theorem bb_list : bootBuiltins "list" = some (.type "list") := by decide +kernel
theorem bb_tuple : bootBuiltins "tuple" = some (.type "tuple") := by decide +kernel
theorem bb_set : bootBuiltins "set" = some (.type "set") := by decide +kernel
theorem bb_isinstance : bootBuiltins "isinstance" = some (.builtin "isinstance") := by decide +kernel
theorem bb_min : bootBuiltins "min" = some (.builtin "min") := by decide +kernel
theorem bb_max : bootBuiltins "max" = some (.builtin "max") := by decide +kernel
theorem bb_sum : bootBuiltins "sum" = some (.builtin "sum") := by decide +kernel
theorem bb_all : bootBuiltins "all" = some (.builtin "all") := by decide +kernel
theorem bb_sorted : bootBuiltins "sorted" = some (.builtin "sorted") := by decide +kernel
section
variable {X : Cx} {cl : Nat → Value} {W : WX} {st : Stmt} {sts : List Stmt} {e a b : Expr} {es : List Expr} {fa fb : EF} {fr : AF} {ff fg : SF} {pos : Pos}
theorem _root_.L2.PI.or {tg e : Expr} {t t' : TI} (h : PI X tg e t) (h' : PI X tg e t') : PI X tg e (fun σ H R => t σ H R ∨ t' σ H R) := ⟨fun pins s σ H Q I q => q.elim (h.run pins s σ H Q I) (h'.run pins s σ H Q I)⟩
/-- a list, a tuple, a text that stands for good -/
theorem ji_any {tg : Expr} (h : JE X cl W e fa) : JI X cl W tg e (walkF fa) := (((ji_list (tg := tg) h).or (ji_tup h)).or (ji_str h)).imp fun σ H R h => by
  obtain ⟨M, ι, δ, s, C, S, P⟩ := h
  unfold walkF at P
  cases q : fa δ s with
  | stuck => rw [q] at P; exact P.elim
  | exc c s' => rw [q] at P; exact .inl (.inl ⟨M, ι, δ, s, C, S, by unfold listF'; rw [q]; exact P⟩)
  | val d s' =>
    rw [q, O.bind_val] at P
    split at P
    · exact .inl (.inl ⟨M, ι, δ, s, C, S, by unfold listF'; rw [q]; exact P⟩)
    · exact .inl (.inr ⟨M, ι, δ, s, C, S, by unfold tupF'; rw [q]; exact P⟩)
    · exact .inr ⟨M, ι, δ, s, C, S, by unfold strF'; rw [q]; exact P⟩
    · exact P.elim
/-! ### * -/
def repS (k : Nat) (a : List Nat) : List Nat := (List.replicate k a).flatten
def rMulS : R2 := fun x y H Q => ∃ (a : List Nat) (k : Int), x = .str ⟨a.toArray⟩ ∧ y = .int k ∧ 0 ≤ k ∧ k ≤ 1000 ∧ a.length ≤ 1000 ∧ Q (.str ⟨(repS k.toNat a).toArray⟩) H
theorem fold_app (a : List Nat) : ∀ (n : Nat) (b : List Nat), List.foldl (fun x1 x2 => x1 ++ x2) b.toArray (List.replicate n a.toArray) = (b ++ repS n a).toArray
  | 0, b => by simp [repS]
  | n + 1, b => by
    rw [List.replicate_succ, List.foldl_cons]
    have := fold_app a n (b ++ a)
    simp only [List.append_toArray] at this ⊢
    rw [this]
    unfold repS
    rw [List.replicate_succ, List.flatten_cons, List.append_assoc]
theorem op_mulS : OpR X (binaryOp .Mult) rMulS := by
  intro pins s σ H x y v u Q I rx ry h
  obtain ⟨a, k, rfl, rfl, h1, h2, h3, q⟩ := h
  obtain ⟨t, rfl⟩ := rx
  obtain ⟨t', rfl⟩ := ry
  have hlen : (⟨a.toArray⟩ : Str).length = a.length := by simp [Str.length]
  refine P.mul_str ?_ ?_ ?_ ?_
  · rw [decide_eq_false (by omega), decide_eq_false (by omega)]; rfl
  · intro _ _
    rw [hlen]
    have h4 : (1000 : Int) ≤ (2 ^ 63 - 1) / k := by
      rw [Int.le_ediv_iff_mul_le (by omega)]
      omega
    omega
  · intro _ _
    rw [hlen]
    unfold Builtin.Str.tooLong
    rw [decide_eq_false]
    rw [sizeLine_eq]
    have : a.length * k.toNat ≤ 1000 * 1000 := Nat.mul_le_mul h3 (by omega)
    omega
  · split
    · obtain rfl : k = 0 := by omega
      exact ⟨by decide, ⟨.str ⟨#[]⟩, H, I.tok _, ⟨_, rfl⟩, q⟩⟩
    · split
      · rename_i hc
        have e : repS k.toNat a = a := by
          rw [hlen] at hc
          simp only [Bool.or_eq_true, beq_iff_eq] at hc
          rcases hc with rfl | hc
          · simp [repS]
          · have : a = [] := List.eq_nil_of_length_eq_zero hc
            subst this
            simp [repS]
        rw [e] at q
        exact ⟨.str ⟨a.toArray⟩, H, I, ⟨_, rfl⟩, q⟩
      · have e : List.foldl (fun x1 x2 => x1 ++ x2) #[] (List.replicate k.toNat a.toArray) = (repS k.toNat a).toArray := by
          have := fold_app a k.toNat []
          rwa [List.nil_append] at this
        have hl : (repS k.toNat a).length ≤ 1000000 := by
          unfold repS
          rw [List.length_flatten, List.map_replicate, List.sum_replicate_nat]
          have : k.toNat * a.length ≤ 1000 * 1000 := Nat.mul_le_mul (by omega) h3
          omega
        show (Made.str ⟨List.foldl (fun x1 x2 => x1 ++ x2) #[] (List.replicate k.toNat a.toArray)⟩).post (EP X pins σ Q) s
        rw [e]
        refine ⟨?_, ⟨.str ⟨(repS k.toNat a).toArray⟩, H, I.tok _, ⟨_, rfl⟩, q⟩⟩
        show (repS k.toNat a).toArray.size ≤ sizeLine
        rw [List.size_toArray, sizeLine_eq]; omega
def mulG : Op2 := fun s x y => match view s x, y with
  | .int i, .int j => if big i = true ∨ big j = true then .val (.int (i * j)) s else .stuck
  | .lst a, .int k => if sm k = true ∧ a.length * k.toNat ≤ 16000000 then .val (.lst (List.replicate k.toNat a).flatten) s else .stuck
  | .tup a, .int k => if 0 < a.length ∧ a.length ≤ 1000 ∧ 2 ≤ k ∧ k ≤ 1000 then .val (.tup (List.replicate k.toNat a).flatten) s else .stuck
  | .str a, .int k => if (0 ≤ k ∧ k ≤ 1000) ∧ a.length ≤ 1000 then .val (.str (repS k.toNat a)) s else .stuck
  | _, _ => .stuck
def rMulU (K : PySem.W.Frag) : R2 := fun x y H Q => (((rI CMul fun i j => .int (i * j)) x y H Q ∨ rRep x y H Q) ∨ rRepT K x y H Q) ∨ rMulS x y H Q
theorem op_mulU : OpR X (binaryOp .Mult) (rMulU X.K) := ((op_mul.or op_rep).or op_repT).or op_mulS
theorem okS_rep {a : List Nat} (h : okS a = true) : ∀ k : Nat, okS (repS k a) = true
  | 0 => rfl
  | k + 1 => by
    have := okS_app h (okS_rep h k)
    unfold repS at this ⊢
    rwa [List.replicate_succ, List.flatten_cons]
theorem RepL.rep {K : PySem.W.Frag} {M : Hp} {ds : List D} {vs : List V} (r : RepL K M ds vs) : ∀ k : Nat, RepL K M (List.replicate k ds).flatten (List.replicate k vs).flatten
  | 0 => .nil
  | k + 1 => by
    rw [List.replicate_succ, List.replicate_succ, List.flatten_cons, List.flatten_cons]
    exact r.append (RepL.rep r k)
theorem big_lt {j : Int} (h : big j = true) : -(2 ^ 64) < j ∧ j < 2 ^ 64 := by
  unfold big at h
  simp only [Bool.and_eq_true, decide_eq_true_eq] at h
  exact h
theorem ok_mul {K : PySem.W.Frag} : Ok2 K (rMulU K) mulG := fun Wx M ι s H x y u v Q C rx ry P => by
  have s1 := C.sees rx
  unfold mulG at P
  split at P
  · rename_i e1
    rw [e1] at s1
    split at P
    · rename_i hb
      exact .inl (.inl (.inl ⟨_, _, s1.int, ry.int, hb.imp big_lt big_lt, Post.now (C := Rep K) P C rf_int⟩))
    · exact P.elim
  · rename_i a k e1
    rw [e1] at s1
    split at P
    · rename_i hc
      obtain ⟨p, vs, rfl, h1, r1⟩ := s1
      exact .inl (.inl (.inr ⟨p, k, vs, rfl, ry.int, h1, by have := (sm_lt hc.1).1; omega, by have := (sm_lt hc.1).2; omega, by rw [r1.length]; exact lim_le hc.2, fun l hl => Post.laidL P C (r1.rep _) hl⟩))
    · exact P.elim
  · rename_i a k e1
    rw [e1] at s1
    split at P
    · rename_i hc
      obtain ⟨p, vs, rfl, h1, r1⟩ := s1.tup
      have hl := r1.length
      exact .inl (.inr ⟨p, k, vs, rfl, ry.int, Ex.t C.sub h1.sq, fun z => by rw [z] at hl; simp at hl; omega, hc.2.2.1, hc.2.2.2, by omega, fun l hl => Post.laidT P C (r1.rep _) hl⟩)
    · exact P.elim
  · rename_i a k e1
    rw [e1] at s1
    split at P
    · rename_i hc
      obtain ⟨rfl, ok⟩ := s1.str
      exact .inr ⟨a, k, rfl, ry.int, hc.1.1, hc.1.2, hc.2, Post.now (C := Rep K) P C (rf_str (okS_rep ok _))⟩
    · exact P.elim
  · exact P.elim
end
/-- a law of the layer: the written part, the function, what it is as a function -/
theorem law_end {l : PySem.W.OpenLaw} {k : Nat} {q : Program} {loose : List Str} {XP : (Str → Option Value) → Heap → Prop} {YP : World → Heap → Prop} {d : DefRec} {m : FF}
    (hn : l.most = some 63) (hdf : d.params.defaults = []) (hr : Room k callerA) (hm : ∀ ns : List Int, ns.length ≤ 63 → ∃ s, m [.scr ns] [] = .val (.bl true) s)
    (F : ∀ (w : World) (mg : Str → Option Value) (f : Addr) (h : Heap), YP w h → h.Ns mainGlobals mg → mg d.name = some (.ref f) →
      ∃ (K : PySem.W.Frag) (fd : FuncData) (cl : Nat → Value), K.In h ∧ (∀ (s : Shared) (u : Value), BindsTo s fd ⟨[u], []⟩ [("script", u)]) ∧ ∀ base : Heap, K.In base → base.Ns mainGlobals mg → FnOk l.prog w K mg base (L2.CX l.prog w) k f fd ["script"] (SpF K cl 1 m)) :
    PySem.W.WalkO q loose XP YP l.row.toRowW d [] (fun f vs => PySem.call f vs) := by
  refine Att.attach_call hn hdf ?_
  intro w _ s₁ mg _ f _ _ _ _ a _ ns G Y _ _ _ hmg hobj his hlen hg
  obtain ⟨K, fd, cl, KX, hb, hF⟩ := F w mg f _ Y G.T.g hmg
  have hz : ns.length ≤ sizeLine := Nat.le_trans hlen (by decide)
  exact law_call KX G.T.g G.T.b G.T.builtins G.T.nolimit hg hobj his hz hr hF hb (fun H _ hS => law_sp hm H a ns hlen hS) fun _ _ _ h => cx_none h
end Fl
set_option Elab.async false
set_option linter.all false
set_option maxRecDepth 100000
namespace Fl
/-! ### how functions on data are reckoned -/
section
variable {δ : Sl} {s : Sto} {i j : Nat} {d x y : D} {f fa fb fc : EF} {fr : AF} {ff fg : SF} {ta tb : BF}
@[simp] theorem e_var : varF i δ s = (match δ[i]? with | some (some d) => .val d s | _ => .stuck) := rfl
@[simp] theorem e_c : cF d δ s = .val d s := rfl
@[simp] theorem e_bin {g : Op2} : bin g fa fb δ s = (fa δ s).bind fun x s1 => (fb δ s1).bind fun y s2 => g s2 x y := rfl
@[simp] theorem e_una {g : Op1} : una g fa δ s = (fa δ s).bind fun x s1 => g s1 x := rfl
@[simp] theorem e_nil : nil δ s = .val [] s := rfl
@[simp] theorem e_con : con fa fr δ s = (fa δ s).bind fun x s1 => (fr δ s1).bind fun xs s2 => .val (x :: xs) s2 := rfl
@[simp] theorem e_fnB {g : Sto → List D → O D} : fnB g fr δ s = (fr δ s).bind fun xs s1 => g s1 xs := rfl
@[simp] theorem e_chain {g g' : Op2} : chain g g' fa fb fc δ s = (fa δ s).bind fun x s1 => (fb δ s1).bind fun y s2 => (g s2 x y).bind fun z s3 => match z with
  | .bl true => (fc δ s3).bind fun w s4 => g' s4 y w
  | .bl false => .val (.bl false) s3
  | _ => .stuck := rfl
@[simp] theorem e_tst : tst fa δ s = (fa δ s).bind fun x s1 => match x with
  | .bl b => .val b s1
  | _ => .stuck := rfl
@[simp] theorem e_andT : andT ta tb δ s = (ta δ s).bind fun b s1 => if b = true then tb δ s1 else .val false s1 := rfl
@[simp] theorem e_orT : orT ta tb δ s = (ta δ s).bind fun b s1 => if b = true then .val true s1 else tb δ s1 := rfl
@[simp] theorem e_notT : notT ta δ s = (ta δ s).bind fun b s1 => .val (!b) s1 := rfl
@[simp] theorem e_andE : andE fa fb δ s = (fa δ s).bind fun x s1 => match x with
  | .bl true => fb δ s1
  | .bl false => .val (.bl false) s1
  | _ => .stuck := rfl
@[simp] theorem e_orE : orE fa fb δ s = (fa δ s).bind fun x s1 => match x with
  | .bl false => fb δ s1
  | .bl true => .val (.bl true) s1
  | _ => .stuck := rfl
@[simp] theorem e_notE : notE fa δ s = (fa δ s).bind fun x s1 => match x with
  | .bl b => .val (.bl (!b)) s1
  | _ => .stuck := rfl
@[simp] theorem e_ite : iteE ta fa fb δ s = (ta δ s).bind fun b s1 => if b = true then fa δ s1 else fb δ s1 := rfl
@[simp] theorem e_tup : tupE fr δ s = (fr δ s).bind fun xs s1 => if flats xs = true ∧ xs.length ≤ 16000000 then .val (.tup xs) s1 else .stuck := rfl
@[simp] theorem e_lst : lstE fr δ s = (fr δ s).bind fun xs s1 => if flats xs = true ∧ xs.length ≤ 16000000 then .val (.lst xs) s1 else .stuck := rfl
@[simp] theorem e_own : ownE fr δ s = (fr δ s).bind fun xs s1 => if xs.length ≤ 16000000 then .val (.ob s1.length) (s1 ++ [.lst xs]) else .stuck := rfl
@[simp] theorem e_call {n : Nat} {F : FF} : callF n F fr δ s = (fr δ s).bind fun xs s1 => if xs.length = n then F xs s1 else .stuck := rfl
@[simp] theorem e_walk : walkF f δ s = (f δ s).bind fun d s1 => match d with
  | .lst ds => .val ds s1
  | .tup ds => .val ds s1
  | .str cs => .val (cs.map fun c => .str [c]) s1
  | _ => .stuck := rfl
@[simp] theorem e_rng1 : rng1F fr δ s = (fr δ s).bind fun ds s1 => match ds with
  | [.int j] => if sm j = true then .val (upI 0 j.toNat) s1 else .stuck
  | _ => .stuck := rfl
@[simp] theorem e_rng2 : rng2F fr δ s = (fr δ s).bind fun ds s1 => match ds with
  | [.int i, .int j] => if sm i = true ∧ sm j = true then .val (upI i (j - i).toNat) s1 else .stuck
  | _ => .stuck := rfl
@[simp] theorem e_comp {fi : AF} {vs : List Nat} {g : GF} {t : BF} {e : EF} : compF fi vs g t e δ s = (fi δ s).bind fun xs s1 => (loopC g t e (wipeD δ vs) xs [] s1).bind fun ds s2 => .val (.lst ds) s2 := rfl
@[simp] theorem e_compO {fi : AF} {vs : List Nat} {g : GF} {t : BF} {e : EF} : compO fi vs g t e δ s = (fi δ s).bind fun xs s1 => (loopA g t e (wipeD δ vs) xs [] s1).bind fun ds s2 => .val (.ob s2.length) (s2 ++ [.lst ds]) := rfl
/-! statements -/
@[simp] theorem e_set : setS i f δ s = (f δ s).go δ fun d s1 => .nx (δ.set i (some d)) s1 := rfl
@[simp] theorem e_asg {g : GF} : asgS' f g δ s = (f δ s).go δ fun d s1 => (noX (g d δ s1)).go δ fun δ' s2 => .nx δ' s2 := rfl
@[simp] theorem e_name : nameG i d δ s = .val (δ.set i (some d)) s := rfl
@[simp] theorem e_tupG {gs : List GF} : tupG gs d δ s = (match d with
  | .tup ds => if ds.length = gs.length then unp gs ds δ s else .stuck
  | _ => .stuck) := rfl
@[simp] theorem e_unp0 : unp [] [] δ s = .val δ s := rfl
@[simp] theorem e_unp1 {g : GF} {gs : List GF} {ds : List D} : unp (g :: gs) (d :: ds) δ s = (noX (g d δ s)).bind fun δ1 s1 => unp gs ds δ1 s1 := rfl
@[simp] theorem noX_val : noX (.val δ s) = .val δ s := rfl
@[simp] theorem noX_stuck : noX .stuck = .stuck := rfl
@[simp] theorem quiet_val {α : Type} {a : α} : quiet (.val a s) = .val a s := rfl
@[simp] theorem quiet_stuck {α : Type} : quiet (.stuck : O α) = .stuck := rfl
@[simp] theorem e_par : parS i j fr δ s = (fr δ s).go δ fun ds s1 => match ds with
  | [x, y] => .nx ((δ.set i (some x)).set j (some y)) s1
  | _ => .stuck := rfl
@[simp] theorem e_par3 {l : Nat} : par3S i j l fr δ s = (fr δ s).go δ fun ds s1 => match ds with
  | [x, y, z] => .nx (((δ.set i (some x)).set j (some y)).set l (some z)) s1
  | _ => .stuck := rfl
@[simp] theorem e_aug {g : Int → Int → Int} : augS g i f δ s = (match δ[i]? with
  | some (some (.int x)) => (f δ s).go δ fun d s1 => match d with
    | .int y => .nx (δ.set i (some (.int (g x y)))) s1
    | _ => .stuck
  | _ => .stuck) := rfl
@[simp] theorem e_drop : dropS f δ s = (f δ s).go δ fun _ s1 => .nx δ s1 := rfl
@[simp] theorem e_ret : retS f δ s = (f δ s).go δ fun d s1 => .rt d s1 := rfl
@[simp] theorem e_pass : passS δ s = .nx δ s := rfl
@[simp] theorem e_brk : brkS δ s = .bk δ s := rfl
@[simp] theorem e_ct : ctS δ s = .ct δ s := rfl
@[simp] theorem e_retN : retN δ s = .rt .non s := rfl
@[simp] theorem e_seq : seqS ff fg δ s = (ff δ s).then fg := rfl
@[simp] theorem e_if : ifS ta ff fg δ s = (ta δ s).go δ fun b s1 => if b = true then ff δ s1 else fg δ s1 := rfl
@[simp] theorem e_for {fi : AF} {g : GF} : forS fi g ff δ s = (fi δ s).go δ fun xs s1 => loopS g ff xs δ s1 := rfl
/-! the end of a def -/
@[simp] theorem Chk.refl {s : Sto} : Chk s s := fun k _ => .inl rfl
@[simp] theorem Chk.nil {s : Sto} : Chk [] s := fun k h => absurd h (by simp)
@[simp] theorem Chk.app {s j : Sto} : Chk s (s ++ j) := fun k h => .inl (List.getElem?_append_left h)
@[simp] theorem Chk.set {s : Sto} {t : Nat} {o : SO} (h : lowO s.length o = true) : Chk s (s.set t o) := fun k hk => by
  by_cases e : k = t
  · subst e; exact .inr ⟨o, List.getElem?_set_self hk, h⟩
  · exact .inl (List.getElem?_set_ne (Ne.symm e))
theorem Chk.setApp {s j : Sto} {t : Nat} {o : SO} (h : lowO s.length o = true) : Chk s (s.set t o ++ j) := fun k hk => by
  rw [List.getElem?_append_left (by simpa using hk)]
  exact Chk.set h k hk
section
variable {n : Nat}
@[simp] theorem low_non : low n .non = true := rfl
@[simp] theorem low_bl {b : Bool} : low n (.bl b) = true := rfl
@[simp] theorem low_int {b : Int} : low n (.int b) = true := rfl
@[simp] theorem low_str {b : List Nat} : low n (.str b) = true := rfl
@[simp] theorem low_tup {b : List D} : low n (.tup b) = true := rfl
@[simp] theorem low_lst {b : List D} : low n (.lst b) = true := rfl
@[simp] theorem low_ty {b : String} : low n (.ty b) = true := rfl
@[simp] theorem low_scr {b : List Int} : low n (.scr b) = true := rfl
end
theorem low_flat {n : Nat} {d : D} (h : flat d = true) : low n d = true := by cases d <;> first | rfl | cases h
@[simp] theorem low_ob {n k : Nat} : low n (.ob k) = decide (k < n) := rfl
@[simp] theorem lows_nil {n : Nat} : lows n [] = true := rfl
@[simp] theorem lows_cons {n : Nat} {d : D} {ds : List D} : lows n (d :: ds) = (low n d && lows n ds) := rfl
@[simp] theorem lowO_lst {n : Nat} {ds : List D} : lowO n (.lst ds) = lows n ds := rfl
theorem lows_flats {n : Nat} {ds : List D} (h : flats ds = true) : lows n ds = true := by
  unfold lows; unfold flats at h
  rw [List.all_eq_true] at h ⊢
  exact fun d hd => low_flat (h d hd)
@[simp] theorem outF_rt {s s' : Sto} {d : D} (f : low s.length d = true) (c : Chk s s') : outF s (.rt d s') = .val d (s'.take s.length) := by
  unfold outF; simp only; rw [if_pos c, if_pos f]
theorem outF_frz {s s' : Sto} {d d' : D} (f : low s.length d = false) (c : Chk s s') (z : dfz s.length s' 3 d = some d') : outF s (.rt d s') = .val d' (s'.take s.length) := by
  unfold outF; simp only; rw [if_pos c, if_neg (by rw [f]; decide), z]
@[simp] theorem outF_nx {s s' : Sto} {δ : Sl} (c : Chk s s') : outF s (.nx δ s') = .val .non (s'.take s.length) := by
  unfold outF; simp only; rw [if_pos c]
theorem outF_exc {s s' : Sto} {δ : Sl} {n : Nat} (c : Chk s s') : outF s (.exc n δ s') = .exc n (s'.take s.length) := by
  unfold outF; simp only; rw [if_pos c]
@[simp] theorem outK_rt {s : Sto} {d : D} : outK (.rt d s) = .val d s := rfl
@[simp] theorem outK_nx {s : Sto} {δ : Sl} : outK (.nx δ s) = .val .non s := rfl
@[simp] theorem take_set {t : Nat} {o : SO} : (s.set t o).take s.length = s.set t o := List.take_of_length_le (by simp)
@[simp] theorem pow18 : powG s (.int 10) (.int 18) = .val (.int 1000000000000000000) s := rfl
@[simp] theorem pow12 : powG s (.int 10) (.int 12) = .val (.int 1000000000000) s := rfl
/-! values -/
@[simp] theorem flat_non : flat .non = true := rfl
@[simp] theorem flat_bl {b : Bool} : flat (.bl b) = true := rfl
@[simp] theorem flat_int {b : Int} : flat (.int b) = true := rfl
@[simp] theorem flat_str {b : List Nat} : flat (.str b) = true := rfl
@[simp] theorem flat_tup {b : List D} : flat (.tup b) = true := rfl
@[simp] theorem flat_lst {b : List D} : flat (.lst b) = true := rfl
@[simp] theorem flat_ty {b : String} : flat (.ty b) = true := rfl
@[simp] theorem flats_nil : flats [] = true := rfl
@[simp] theorem flats_cons {ds : List D} : flats (d :: ds) = (flat d && flats ds) := by simp [flats]
@[simp] theorem dep_non : dep .non = 0 := by unfold dep; rfl
@[simp] theorem dep_bl {b : Bool} : dep (.bl b) = 0 := by unfold dep; rfl
@[simp] theorem dep_int {b : Int} : dep (.int b) = 0 := by unfold dep; rfl
@[simp] theorem dep_str {b : List Nat} : dep (.str b) = 0 := by unfold dep; rfl
@[simp] theorem dep_tup {b : List D} : dep (.tup b) = deps b + 1 := by rw [dep]
@[simp] theorem dep_lst {b : List D} : dep (.lst b) = deps b + 1 := by rw [dep]
@[simp] theorem deps_nil : deps [] = 0 := by rw [deps]
@[simp] theorem deps_cons {ds : List D} : deps (d :: ds) = max (dep d) (deps ds) := by rw [deps]
@[simp] theorem deq_int {i j : Int} : deq (.int i) (.int j) = (i == j) := by simp [deq, toPy, PySem.PyData.eqv]
@[simp] theorem deq_bl {i j : Bool} : deq (.bl i) (.bl j) = (i == j) := by simp [deq, toPy, PySem.PyData.eqv]
@[simp] theorem deq_str {a b : List Nat} : deq (.str a) (.str b) = (a == b) := by
  simp only [deq, toPy, PySem.PyData.eqv]
  exact SX.S_beq a b
@[simp] theorem deq_non : deq .non .non = true := by simp [deq, toPy, PySem.PyData.eqv]
@[simp] theorem deq_lst {a b : List D} : deq (.lst a) (.lst b) = deqs a b := by simp [deq, deqs, toPy, PySem.PyData.eqv]
@[simp] theorem deq_tup {a b : List D} : deq (.tup a) (.tup b) = deqs a b := by simp [deq, deqs, toPy, PySem.PyData.eqv]
@[simp] theorem deqs_nil : deqs [] [] = true := by simp [deqs, toPys, PySem.PyData.eqvAll]
@[simp] theorem deqs_cons {a b : List D} : deqs (x :: a) (y :: b) = (deq x y && deqs a b) := by simp [deq, deqs, toPys, PySem.PyData.eqvAll]
@[simp] theorem deqs_nil_cons {b : List D} : deqs [] (y :: b) = false := by simp [deqs, toPys, PySem.PyData.eqvAll]
@[simp] theorem deqs_cons_nil {b : List D} : deqs (y :: b) [] = false := by simp [deqs, toPys, PySem.PyData.eqvAll]
/-! operations -/
@[simp] theorem eqG_def : eqG s x y = if dep (view s x) ≤ 60 ∧ dep (view s y) ≤ 60 then .val (.bl (deq (view s x) (view s y))) s else .stuck := rfl
@[simp] theorem neG_def : neG s x y = if dep (view s x) ≤ 60 ∧ dep (view s y) ≤ 60 then .val (.bl (!deq (view s x) (view s y))) s else .stuck := rfl
@[simp] theorem subG_int {i j : Int} : subG s (.int i) (.int j) = .val (.int (i - j)) s := rfl
@[simp] theorem ltG_int {i j : Int} : ltG s (.int i) (.int j) = .val (.bl (decide (i < j))) s := rfl
@[simp] theorem leG_int {i j : Int} : leG s (.int i) (.int j) = .val (.bl (decide (i ≤ j))) s := rfl
@[simp] theorem gtG_int {i j : Int} : gtG s (.int i) (.int j) = .val (.bl (decide (j < i))) s := rfl
@[simp] theorem geG_int {i j : Int} : geG s (.int i) (.int j) = .val (.bl (decide (j ≤ i))) s := rfl
theorem modG_int {i j : Int} (h : 0 < j) : modG s (.int i) (.int j) = .val (.int (i % j)) s := if_pos (decide_eq_true h)
theorem divG_int {i j : Int} (h : 0 < j) (h2 : j < 2 ^ 64) : divG s (.int i) (.int j) = .val (.int (i / j)) s := if_pos (by simp only [Bool.and_eq_true, decide_eq_true_eq]; exact ⟨h, h2⟩)
@[simp] theorem negG_int {i : Int} : negG s (.int i) = .val (.int (-i)) s := rfl
@[simp] theorem addG_int {i j : Int} : addG s (.int i) (.int j) = .val (.int (i + j)) s := rfl
theorem addG_str {a b : List Nat} (h : a.length + b.length ≤ 16000000) : addG s (.str a) (.str b) = .val (.str (a ++ b)) s := if_pos h
theorem addG_lst {a b : List D} (h : a.length + b.length ≤ 16000000) : addG s (.lst a) (.lst b) = .val (.lst (a ++ b)) s := if_pos h
theorem addG_tup {a b : List D} (h : a.length + b.length ≤ 16000000) : addG s (.tup a) (.tup b) = .val (.tup (a ++ b)) s := if_pos h
theorem mulG_l {i j : Int} (h : big i = true) : mulG s (.int i) (.int j) = .val (.int (i * j)) s := if_pos (.inl h)
theorem mulG_r {i j : Int} (h : big j = true) : mulG s (.int i) (.int j) = .val (.int (i * j)) s := if_pos (.inr h)
@[simp] theorem isNG_non : isNG s .non .non = .val (.bl true) s := rfl
@[simp] theorem isNG_bl {a b : Bool} : isNG s (.bl a) (.bl b) = .val (.bl (a == b)) s := rfl
@[simp] theorem isntG_non : isntG s .non .non = .val (.bl false) s := rfl
@[simp] theorem isntG_bl {a b : Bool} : isntG s (.bl a) (.bl b) = .val (.bl (!(a == b))) s := rfl
@[simp] theorem intOf_bl {b : Bool} : intOf s [.bl b] = .val (.int (if b then 1 else 0)) s := rfl
@[simp] theorem lenG_lst {ds : List D} : lenG s [.lst ds] = .val (.int ds.length) s := rfl
@[simp] theorem lenG_tup {ds : List D} : lenG s [.tup ds] = .val (.int ds.length) s := rfl
theorem lenG_str {cs : List Nat} (h : cs.length ≤ 16000000) : lenG s [.str cs] = .val (.int cs.length) s := if_pos h
theorem ixG_str {cs : List Nat} {i : Int} {c : Nat} (h : cs.length ≤ 16000000) (e : L2.atI cs i = some c) : ixG s (.str cs) (.int i) = .val (.str [c]) s := by
  simp only [ixG, look_str, if_pos h, e]
@[simp] theorem ixG_wf {i : Int} : ixG s (.str [119, 102]) (.int i) = (match L2.atI [119, 102] i with
  | some c => .val (.str [c]) s
  | none => .stuck) := rfl
theorem ixG_lst {ds : List D} {i : Int} (e : L2.atI ds i = some d) : ixG s (.lst ds) (.int i) = .val d s := by simp only [ixG, look_lst, e]
theorem ixG_tup {ds : List D} {i : Int} (e : L2.atI ds i = some d) : ixG s (.tup ds) (.int i) = .val d s := by simp only [ixG, look_tup, e]
theorem ixG_ob {ds : List D} {i : Int} {k : Nat} (h : s[k]? = some (.lst ds)) (e : L2.atI ds i = some d) : ixG s (.ob k) (.int i) = .val d s := by simp only [ixG, look_ob h, e]
@[simp] theorem ixG_obD {i : Int} {k : Nat} : ixG s (.ob k) (.int i) = (match s[k]? with
  | some (.lst ds) => (match L2.atI ds i with
    | some d => .val d s
    | none => .stuck)
  | _ => .stuck) := by
  cases h : s[k]? with
  | none => simp [ixG, look, h]
  | some o =>
    cases o with
    | dead => simp [ixG, look, h]
    | ins _ _ => simp [ixG, look, h]
    | dic _ => simp [ixG, look, h]
    | lst ds =>
      simp only [ixG, look, h] <;> (cases L2.atI ds i <;> rfl)
@[simp] theorem lenG_obD {k : Nat} : lenG s [.ob k] = (match s[k]? with
  | some (.lst ds) => .val (.int ds.length) s
  | _ => .stuck) := by
  cases h : s[k]? with
  | none => simp [lenG, look, h]
  | some o => cases o <;> simp [lenG, look, h]
theorem view_obD {k : Nat} : view s (.ob k) = (match s[k]? with
  | some (.lst ds) => if flats ds = true then .lst ds else .ob k
  | _ => .ob k) := rfl
@[simp] theorem e_setI {fo fi : EF} : setI fo fi d δ s = (fo δ s).bind fun x s1 => (fi δ s1).bind fun y s2 => match x, y with
  | .ob k, .int i => match s2[k]? with
    | some (.lst ds) => match L2.ixN ds.length i with
      | some j => .val δ (s2.set k (.lst (ds.set j d)))
      | none => .stuck
    | _ => .stuck
  | _, _ => .stuck := rfl
@[simp] theorem listF_scr {ns : List Int} : listF s [.scr ns] = .val (.lst (ns.map D.int)) s := rfl
@[simp] theorem listF_lst {ns : List D} : listF s [.lst ns] = .val (.lst ns) s := rfl
@[simp] theorem listF_tup {ns : List D} : listF s [.tup ns] = .val (.lst ns) s := rfl
end
@[simp] theorem atI_0 {α : Type} {a : α} {l : List α} : L2.atI (a :: l) 0 = some a := L2.atI_nat (j := 0) rfl
@[simp] theorem atI_1 {α : Type} {a b : α} {l : List α} : L2.atI (a :: b :: l) 1 = some b := L2.atI_nat (j := 1) rfl
@[simp] theorem atI_2 {α : Type} {a b c : α} {l : List α} : L2.atI (a :: b :: c :: l) 2 = some c := L2.atI_nat (j := 2) rfl
@[simp] theorem atI_3 {α : Type} {a b c d : α} {l : List α} : L2.atI (a :: b :: c :: d :: l) 3 = some d := L2.atI_nat (j := 3) rfl
@[simp] theorem ixN_0 {n : Nat} : L2.ixN (n + 1) 0 = some 0 := by unfold L2.ixN; rw [if_pos (by omega), if_pos (by omega)]; rfl
@[simp] theorem ixN_1 {n : Nat} : L2.ixN (n + 1 + 1) 1 = some 1 := by unfold L2.ixN; rw [if_pos (by omega), if_pos (by omega)]; rfl
@[simp] theorem ixN_2 {n : Nat} : L2.ixN (n + 1 + 1 + 1) 2 = some 2 := by unfold L2.ixN; rw [if_pos (by omega), if_pos (by omega)]; rfl
section
variable {a b c e : D} {l : List D} {s : Sto}
@[simp] theorem ixG_l0 : ixG s (.lst (a :: l)) (.int 0) = .val a s := ixG_lst atI_0
@[simp] theorem ixG_l1 : ixG s (.lst (a :: b :: l)) (.int 1) = .val b s := ixG_lst atI_1
@[simp] theorem ixG_l2 : ixG s (.lst (a :: b :: c :: l)) (.int 2) = .val c s := ixG_lst atI_2
@[simp] theorem ixG_l3 : ixG s (.lst (a :: b :: c :: e :: l)) (.int 3) = .val e s := ixG_lst atI_3
@[simp] theorem ixG_t0 : ixG s (.tup (a :: l)) (.int 0) = .val a s := ixG_tup atI_0
@[simp] theorem ixG_t1 : ixG s (.tup (a :: b :: l)) (.int 1) = .val b s := ixG_tup atI_1
@[simp] theorem ixG_t2 : ixG s (.tup (a :: b :: c :: l)) (.int 2) = .val c s := ixG_tup atI_2
@[simp] theorem ixG_t3 : ixG s (.tup (a :: b :: c :: e :: l)) (.int 3) = .val e s := ixG_tup atI_3
end
end Fl
set_option Elab.async false
set_option linter.all false
set_option maxRecDepth 100000
namespace Fl
open PySem PySem.Spec PyProof.Rows L2
/-! ### what is walked in pairs: lists, tuples, texts -/
inductive Kd where
  | li (a : Addr) | tu (a : Addr) | tx (x : Str) (k : Tok)
def Kd.at (k : Kd) (i : Addr) (n : Nat) (h : Heap) : Prop := match k with
  | .li a => h.IsListIter i a n
  | .tu a => h.IsTupleIter i a n
  | .tx x t => h.IsStrIter i (strIterType x) x t n
def Kd.src (k : Kd) (K : PySem.W.Frag) (H : Hp) (xs : List V) : Prop := match k with
  | .li a => SqL K H a xs
  | .tu a => SqT K H a xs
  | .tx x _ => xs = x.cps.toList.map fun c => V.str ⟨#[c]⟩
def Kd.ads : Kd → List Addr
  | .li a => [a]
  | .tu a => [a]
  | .tx _ _ => []
def Kd.val : Kd → Value
  | .li a => .ref a
  | .tu a => .ref a
  | .tx x t => .str x t
theorem Kd.keep {k : Kd} {i : Addr} {n : Nat} {h h' : Heap} (q : k.at i n h) (e : ∀ o, h.get? i = some o → h'.get? i = some o) : k.at i n h' := by
  cases k with
  | li a => obtain ⟨o, h1, r⟩ := q; exact ⟨o, e o h1, r⟩
  | tu a => obtain ⟨o, h1, r⟩ := q; exact ⟨o, e o h1, r⟩
  | tx x t => obtain ⟨o, h1, r⟩ := q; exact ⟨o, e o h1, r⟩
theorem Kd.ob {k : Kd} {i : Addr} {n : Nat} {h : Heap} (q : k.at i n h) : ∃ o, h.get? i = some o ∧ ∀ v, o.data ≠ .cell v := by
  cases k with
  | li a => obtain ⟨o, h1, _, r⟩ := q; exact ⟨o, h1, fun v z => by rw [r] at z; cases z⟩
  | tu a => obtain ⟨o, h1, _, r⟩ := q; exact ⟨o, h1, fun v z => by rw [r] at z; cases z⟩
  | tx x t => obtain ⟨o, h1, _, r⟩ := q; exact ⟨o, h1, fun v z => by rw [r] at z; cases z⟩
theorem vals_at {xs : List V} {us : List Value} {m : Nat} {v : Value} (r : Vals xs us) (h : us[m]? = some v) : ∃ x, xs[m]? = some x ∧ RelV x v := by
  have hm : m < xs.length := by rw [r.length]; exact (List.getElem?_eq_some_iff.mp h).1
  obtain ⟨u, h1, h2⟩ := r.get (List.getElem?_eq_getElem hm)
  rw [h] at h1; cases h1
  exact ⟨_, List.getElem?_eq_getElem hm, h2⟩
theorem Kd.draws {X : Cx} {pins : List (Addr × Obj)} {σ : L2.St} {H : Hp} {s : Shared} {A : Around} {k : Kd} {i : Addr} {n : Nat} {xs : List V} (I : Inv X pins σ H s) (h : k.src X.K H xs) (hk : k.at i n s.heap) (hne : ∀ a ∈ k.ads, a ≠ i) (hh : A.handled = none) :
    ∃ (P : Nat → Value → Prop) (T : Nat → Heap → Prop), Draws X.prog X.w A i (i :: k.ads) xs.length P T ∧ T n s.heap ∧ (∀ m h, T m h → k.at i m h) ∧ ∀ m v, P m v → ∃ x, xs[m]? = some x ∧ RelV x v := by
  cases k with
  | li a =>
    obtain ⟨its, rv, p, _⟩ := I.list h
    have hl := rv.length
    have D := Draws.list (prog := X.prog) (w := X.w) hh i a (hne a (by simp [Kd.ads])) its.toArray
    rw [List.size_toArray, ← hl] at D
    refine ⟨_, _, D, ⟨hk, p.isList⟩, fun _ _ q => q.1, fun m v q => ?_⟩
    exact vals_at rv (by simpa using q)
  | tu a =>
    obtain ⟨its, rv, p, _⟩ := I.tuple h
    have hl := rv.length
    have D := Draws.tuple (prog := X.prog) (w := X.w) hh i a (hne a (by simp [Kd.ads])) its.toArray
    rw [List.size_toArray, ← hl] at D
    refine ⟨_, _, D, ⟨hk, p⟩, fun _ _ q => q.1, fun m v q => ?_⟩
    exact vals_at rv (by simpa using q)
  | tx x t =>
    have h' : xs = x.cps.toList.map fun c => V.str ⟨#[c]⟩ := h
    subst h'
    have D := Draws.text (prog := X.prog) (w := X.w) hh i x t
    have e : (x.cps.toList.map fun c => V.str ⟨#[c]⟩).length = x.cps.size := by simp
    rw [e]
    refine ⟨_, _, D, hk, fun _ _ q => q, fun m v q => ?_⟩
    obtain ⟨c, u, h1, rfl⟩ := q
    refine ⟨V.str ⟨#[c]⟩, by rw [List.getElem?_map, Array.getElem?_toList, h1]; rfl, ?_⟩
    exact ⟨u, rfl⟩
/-- the sources at each turn, the items in new pairs -/
def ItZ (K : PySem.W.Frag) (k1 k2 : Kd) (xs ys : List V) : It :=
  ⟨fun i H => k1.src K H xs ∧ k2.src K H ys ∧ i < xs.length ∧ i < ys.length, fun i H v H' => ∃ T x y, v = .ref T ∧ H T = none ∧ H' = upd H T (.tup [x, y]) ∧ xs[i]? = some x ∧ ys[i]? = some y,
    fun i H => k1.src K H xs ∧ k2.src K H ys ∧ i = min xs.length ys.length⟩
theorem turn_zipK {P : Program} {w : World} {K : PySem.W.Frag} {elts : List Expr} {kk : Nat} {tpos : Pos} {k1 k2 : Kd} {xs ys : List V} {z TI TO i1 i2 : Addr} (D : ZipSep2 z TI TO i1 i2 (i1 :: k1.ads) (i2 :: k2.ads)) (n1 : ∀ a ∈ k1.ads, a ≠ i1) (n2 : ∀ a ∈ k2.ads, a ≠ i2) :
    Turn P w K (.Tuple elts kk tpos) (ItZ K k1 k2 xs ys) [z, TI, TO, i1, i2] z (fun i h => IsZip h z TI TO .none ∧ IsTupOf2 h TI (.ref i1) (.ref i2) ∧ (∃ x y, IsTupOf2 h TO x y) ∧ k1.at i1 i h ∧ k2.at i2 i h) where
  mem := by simp
  obj := fun i h st c hc => by
    obtain ⟨hz, hTI, ⟨x, y, hTO⟩, h1, h2⟩ := st
    have e' : c = z ∨ c = TI ∨ c = TO ∨ c = i1 ∨ c = i2 := by simpa using hc
    rcases e' with q | q | q | q | q
    · rw [q]; exact ⟨_, hz, fun v q => nomatch q⟩
    · rw [q]; exact ⟨_, hTI, fun v q => nomatch q⟩
    · rw [q]; exact ⟨_, hTO, fun v q => nomatch q⟩
    · rw [q]; exact Kd.ob h1
    · rw [q]; exact Kd.ob h2
  keep := fun i h h' st k => by
    obtain ⟨hz, hTI, ⟨x, y, hTO⟩, h1, h2⟩ := st
    exact ⟨k z (by simp) _ hz, k TI (by simp) _ hTI, ⟨x, y, k TO (by simp) _ hTO⟩, Kd.keep h1 fun o q => k i1 (by simp) o q, Kd.keep h2 fun o q => k i2 (by simp) o q⟩
  item := by
    intro X hP hw hK hc i pins s σ H E I hf st hg
    subst hP hw hK
    obtain ⟨hz, hTI, hTO, h1, h2⟩ := st
    obtain ⟨q1, q2, l1, l2⟩ := hg
    have hh : X.A.in1.handled = none := by simp [I.ok.hd hc]
    obtain ⟨P1, T1, D1, t1, a1, b1⟩ := Kd.draws (A := X.A.in1) I q1 h1 n1 hh
    obtain ⟨P2, T2, D2, t2, a2, b2⟩ := Kd.draws (A := X.A.in1) I q2 h2 n2 hh
    have W := GoesN.zip2 (elts := elts) (x1 := kk) (pos := tpos) D D1 D2
    refine W.goes i s (fun u s2 => ∃ x H', Inv X pins σ H' s2 ∧ RelV x u ∧ (ItZ X.K k1 k2 xs ys).yld i H x H' ∧ (IsZip s2.heap z TI TO .none ∧ IsTupOf2 s2.heap TI (.ref i1) (.ref i2) ∧ (∃ x y, IsTupOf2 s2.heap TO x y) ∧ k1.at i1 (i + 1) s2.heap ∧ k2.at i2 (i + 1) s2.heap) ∧ ∀ b ∈ [z, TI, TO, i1, i2], H' b = none) E (by omega) ⟨hz, hTI, hTO, t1, t2⟩ fun v h' tk hY st' hk _ => ?_
    obtain ⟨T, x, y, rfl, hT, p1, p2, hTup⟩ := hY
    obtain ⟨x', e1, r1⟩ := b1 _ _ p1
    obtain ⟨y', e2, r2⟩ := b2 _ _ p2
    have new : ObjOk X.prog X.w (upd H T (.tup [x', y'])) h' T (.tup [x', y']) :=
      ⟨by show 2 ≤ sizeLine; decide, [x, y], .cons r1 (.cons r2 .nil), by obtain ⟨o, h1, h2, n, h3⟩ := hTup; exact ⟨o, h1, h2, n, h3⟩⟩
    have I1 : Inv X pins σ (upd H T (.tup [x', y'])) { s with heap := h', toks := tk } :=
      I.turnedNew (ch := [z, TI, TO, i1, i2]) (fun c o hb q => hk c o (fun q' => hb (by simp at q' ⊢; rcases q' with q | q | q | q <;> simp [q])) q) hf hT new
    refine ⟨.ref T, _, I1, rfl, ⟨T, x', y', rfl, I.hok.fresh hT, rfl, e1, e2⟩, ⟨st'.1, st'.2.1, st'.2.2.1, a1 _ _ st'.2.2.2.1, a2 _ _ st'.2.2.2.2⟩, fun c hcm => ?_⟩
    have hlt : c < s.heap.objs.size := by
      have e' : c = z ∨ c = TI ∨ c = TO ∨ c = i1 ∨ c = i2 := by simpa using hcm
      obtain ⟨u1, u2, hTO⟩ := hTO
      rcases e' with q | q | q | q | q
      · rw [q]; exact Heap.lt_size hz
      · rw [q]; exact Heap.lt_size hTI
      · rw [q]; exact Heap.lt_size hTO
      · rw [q]; obtain ⟨_, e, _⟩ := Kd.ob h1; exact Heap.lt_size e
      · rw [q]; obtain ⟨_, e, _⟩ := Kd.ob h2; exact Heap.lt_size e
    rw [upd_ne (Nat.ne_of_lt (Nat.lt_of_lt_of_le hlt hT))]
    exact (hf c hcm).1
  done := by
    intro X hP hw hK hc i pins s σ H E I hf st hg
    subst hP hw hK
    obtain ⟨hz, hTI, hTO, h1, h2⟩ := st
    obtain ⟨q1, q2, l⟩ := hg
    subst l
    have hh : X.A.in1.handled = none := by simp [I.ok.hd hc]
    obtain ⟨P1, T1, D1, t1, a1, b1⟩ := Kd.draws (A := X.A.in1) I q1 h1 n1 hh
    obtain ⟨P2, T2, D2, t2, a2, b2⟩ := Kd.draws (A := X.A.in1) I q2 h2 n2 hh
    have W := GoesN.zip2 (elts := elts) (x1 := kk) (pos := tpos) D D1 D2
    exact W.stops s (fun s2 => Inv X pins σ H s2) E ⟨hz, hTI, hTO, t1, t2⟩ fun h' tk hk _ => I.turnedL (ch := [z, TI, TO, i1, i2]) (fun c o hb q => hk c o (fun q' => hb (by simp at q' ⊢; rcases q' with q | q | q | q <;> simp [q])) q) hf
  self := fun A i s Q E st h => wpAny_pyIter_zip st.1 h
inductive Cd where
  | li (a : Addr) | tu (a : Addr) | tx (x : Str)
def Cd.kd : Cd → Tok → Kd
  | .li a, _ => .li a
  | .tu a, _ => .tu a
  | .tx x, t => .tx x t
def Cd.v : Cd → V
  | .li a => .ref a
  | .tu a => .ref a
  | .tx x => .str x
theorem Cd.begins {X : Cx} {pins : List (Addr × Obj)} {σ : L2.St} {H : Hp} {s : Shared} {c : Cd} {u : Value} {xs : List V} (I : Inv X pins σ H s) (r : RelV c.v u) (h : ∀ t, (c.kd t).src X.K H xs) :
    ∃ (t : Tok) (o : Obj) (B : Heap → Prop), u = (c.kd t).val ∧ Begins u o B ∧ B s.heap ∧ (∀ (i : Addr) (h' : Heap), h'.get? i = some o → (c.kd t).at i 0 h') ∧ ∀ a ∈ (c.kd t).ads, a < s.heap.objs.size := by
  cases c with
  | li a =>
    have e : u = .ref a := r
    subst e
    obtain ⟨its, rv, p, _⟩ := I.list (h 0)
    exact ⟨0, _, _, rfl, begins_list a its.toArray, p.isList, fun i h' g => ⟨_, g, rfl, rfl⟩, fun b hb => by rw [show b = a by simpa [Kd.ads, Cd.kd] using hb]; exact p.lt⟩
  | tu a =>
    have e : u = .ref a := r
    subst e
    obtain ⟨its, rv, p, _⟩ := I.tuple (h 0)
    obtain ⟨o, ho, _⟩ := id p
    exact ⟨0, _, _, rfl, begins_tuple a its.toArray, p, fun i h' g => ⟨_, g, rfl, rfl⟩, fun b hb => by rw [show b = a by simpa [Kd.ads, Cd.kd] using hb]; exact Heap.lt_size ho⟩
  | tx x =>
    obtain ⟨t, rfl⟩ : ∃ t, u = .str x t := r
    exact ⟨t, _, _, rfl, begins_text x t, trivial, fun i h' g => ⟨_, g, rfl, rfl⟩, fun b hb => by simp [Kd.ads, Cd.kd] at hb⟩
def iZipK (K : PySem.W.Frag) (ta : TA) : TI := fun σ H R => ta σ H fun vs H1 => ∃ (c1 c2 : Cd) (xs ys : List V), vs = [c1.v, c2.v] ∧ (∀ t, (c1.kd t).src K H1 xs) ∧ (∀ t, (c2.kd t).src K H1 ys) ∧ ∀ t1 t2, R (ItZ K (c1.kd t1) (c2.kd t2) xs ys) H1
theorem pi_zipK {X : Cx} {e e2 : Expr} {ta : TA} {p pos tpos : Pos} {elts : List Expr} {kk : Nat} (hg : Gl X "zip") (hm : X.mg "zip" = none) (ha : PA X [e, e2] ta)
    (hs : starEach [e, e2] X.env = (false, eval e X.env) :: starEach [e2] X.env := by rfl) (hpl : (backTo pos (starEach [e2] X.env)).any (·.1) = false := by rfl) :
    PI X (.Tuple elts kk tpos) (.Call (.Name "zip" p) [e, e2] [] pos) (iZipK X.K ta) := by
  refine ⟨fun pins s σ H R I h => ?_⟩
  refine Call_ (ld_blt I hg hm PyProof.Rows.boot_zip (PyProof.Rows.callWith_type1 (thn (ha.run pos pins s σ H _ I h) fun us s1 ⟨vs, H1, I1, r1, q1⟩ => ?_) hs hpl))
  obtain ⟨c1, c2, xs, ys, ex, k1, k2, q⟩ := q1
  subst ex
  cases r1 with
  | cons r rr =>
    cases rr with
    | cons r' rr =>
      cases rr
      obtain ⟨t1, o1, B1, _, b1, p1, a1, l1⟩ := Cd.begins I1 r k1
      obtain ⟨t2, o2, B2, _, b2, p2, a2, l2⟩ := Cd.begins I1 r' k2
      refine zip_begins2 b1 b2 p1 p2 fun h' hz hTI hTO g1 g2 hsz hk => wpAny_pyIter_zip hz ?_
      have I2 : Inv X pins σ H1 { s1 with heap := h' } := I1.kept (t' := s1.toks) hk
      have fresh5 : ∀ c, c ∈ [s1.heap.objs.size + 4, s1.heap.objs.size + 2, s1.heap.objs.size + 3, s1.heap.objs.size, s1.heap.objs.size + 1] → FpOk X pins H1 c := fun c hcm => by
        have e' : c = s1.heap.objs.size + 4 ∨ c = s1.heap.objs.size + 2 ∨ c = s1.heap.objs.size + 3 ∨ c = s1.heap.objs.size ∨ c = s1.heap.objs.size + 1 := by simpa using hcm
        have hle : s1.heap.objs.size ≤ c := by
          rcases e' with z | z | z | z | z
          · rw [z]; exact Nat.le_add_right _ _
          · rw [z]; exact Nat.le_add_right _ _
          · rw [z]; exact Nat.le_add_right _ _
          · rw [z]; exact Nat.le_refl _
          · rw [z]; exact Nat.le_add_right _ _
        exact I1.fpOk hle (I1.hok.fresh hle)
      refine ⟨s1.heap.objs.size + 4, [s1.heap.objs.size + 4, s1.heap.objs.size + 2, s1.heap.objs.size + 3, s1.heap.objs.size, s1.heap.objs.size + 1], _, _, H1, rfl, I2, turn_zipK (zip_sep2 l1 l2) (fun a ha => Nat.ne_of_lt (l1 a ha)) (fun a ha => Nat.ne_of_lt (Nat.lt_succ_of_lt (l2 a ha))), ⟨hz, hTI, ⟨_, _, hTO⟩, a1 _ _ g1, a2 _ _ g2⟩, fresh5, q t1 t2⟩
/-! ### enumerate -/
theorem meets_enum1 {v : Value} {o : Obj} {H : Heap → Prop} (B : Begins v o H) :
    Meets (Builtin.«enumerate.__new__» ⟨[.type "enumerate", v], []⟩) (fun _ R s => H s.heap ∧
      R (.ok (.ret (.ref (s.heap.push o).objs.size))) { s with heap := (s.heap.push o).push { cls := .type "enumerate", data := .fields #[.none, .bool false, .ref s.heap.objs.size, rawInt 0, .none, .none] } }) :=
  .of_wp fun prog w A R s h => by
    obtain ⟨hp, g, d, tk, os⟩ := s; obtain ⟨h1, h⟩ := h
    have hsub := sub_enumerate
    have q1 : ∀ {A' : Around} {E : Value → Shared → Prop} {Q : Value → Shared → Prop}, Q (.ref hp.objs.size) ⟨hp.push o, g, d, tk, os⟩ → wpAny (model prog w) A' (pyIter v) Q E ⟨hp, g, d, tk, os⟩ :=
      fun q => B.iter prog w _ _ ⟨hp, g, d, tk, os⟩ _ h1 q
    wp_walk using q1
    refine wpAny_stack_any fun st => wpAny_pure ?_
    split
    · rename_i c _ _ _ _ _
      cases (c == Value.type "enumerate")
      · wp_walk using q1
        exact ⟨_, rfl, h⟩
      · wp_walk using q1
        exact ⟨_, rfl, h⟩
    · wp_walk using q1
      exact ⟨_, rfl, h⟩
theorem enum_begins1 {prog : Program} {w : World} {A : Around} {E : Value → Shared → Prop} {s : Shared} {v : Value} {o : Obj} {H : Heap → Prop} {Q : Value → Shared → Prop} (B : Begins v o H) (h1 : H s.heap)
    (h : ∀ h', IsEnum h' (s.heap.objs.size + 1) s.heap.objs.size 0 .none → h'.get? s.heap.objs.size = some o → h'.objs.size = s.heap.objs.size + 2 →
      (∀ b o, s.heap.get? b = some o → h'.get? b = some o) → Q (.ref (s.heap.objs.size + 1)) { s with heap := h' }) :
    wpAny (model prog w) A (call (.type "enumerate") [v]) Q E s := by
  refine callType_new F.called_enumerate (by decide) (F.typeCall_enumerate_1 _) (F.newCall_enumerate_1 _) (fun obj => F.args_object_init_2 obj _) F.entry_enumerate_new
    (meets_enum1 B) ⟨h1, ?_⟩
  have hz : (s.heap.push o).objs.size = s.heap.objs.size + 1 := Heap.size_push ..
  show _ ∧ _
  rw [hz]
  have he : IsEnum ((s.heap.push o).push { cls := .type "enumerate", data := .fields #[.none, .bool false, .ref s.heap.objs.size, rawInt 0, .none, .none] }) (s.heap.objs.size + 1) s.heap.objs.size 0 .none := by
    have := Heap.get?_push_size (s.heap.push o) (o := { cls := .type "enumerate", data := .fields #[.none, .bool false, .ref s.heap.objs.size, rawInt 0, .none, .none] }) rfl
    rw [hz] at this; exact this
  refine ⟨⟨_, he, rfl⟩, h _ he (Heap.get?_push_of_some _ (Heap.get?_push_size _ B.free)) (by rw [Heap.size_push, hz]) fun b o x => Heap.get?_push_of_some _ (Heap.get?_push_of_some _ x)⟩
def ItE (K : PySem.W.Frag) (k : Kd) (xs : List V) : It :=
  ⟨fun i H => k.src K H xs ∧ i < xs.length, fun i H v H' => ∃ T x, v = .ref T ∧ H T = none ∧ H' = upd H T (.tup [.int (i : Nat), x]) ∧ xs[i]? = some x, fun i H => k.src K H xs ∧ i = xs.length⟩
theorem turn_enumK {P : Program} {w : World} {K : PySem.W.Frag} {elts : List Expr} {kk : Nat} {tpos : Pos} {k : Kd} {xs : List V} {e it : Addr} (hei : e ≠ it) (hef : e ∉ it :: k.ads) (n1 : ∀ a ∈ k.ads, a ≠ it) :
    Turn P w K (.Tuple elts kk tpos) (ItE K k xs) [e, it] e (fun i h => (∃ old, IsEnum h e it (0 + (i : Int)) old) ∧ k.at it i h) where
  mem := by simp
  obj := fun i h st b hb => by
    obtain ⟨⟨old, he⟩, h1⟩ := st
    have e' : b = e ∨ b = it := by simpa using hb
    rcases e' with z | z
    · rw [z]; exact ⟨_, he, fun v q => nomatch q⟩
    · rw [z]; exact Kd.ob h1
  keep := fun i h h' st k => let ⟨⟨old, he⟩, hi⟩ := st; ⟨⟨old, k e (by simp) _ he⟩, Kd.keep hi fun o q => k it (by simp) o q⟩
  item := by
    intro X hP hw hK hc i pins s σ H E I hf st hg
    subst hP hw hK
    obtain ⟨he, h1⟩ := st
    obtain ⟨q1, l1⟩ := hg
    have hh : X.A.in1.handled = none := by simp [I.ok.hd hc]
    obtain ⟨P1, T1, D1, t1, a1, b1⟩ := Kd.draws (A := X.A.in1) I q1 h1 n1 hh
    have W := GoesN.enumFrom (elts := elts) (x1 := kk) (pos := tpos) 0 D1 e hei hef (by simp)
    refine W.goes i s (fun u s2 => ∃ x H', Inv X pins σ H' s2 ∧ RelV x u ∧ (ItE X.K k xs).yld i H x H' ∧ ((∃ old, IsEnum s2.heap e it (0 + ((i + 1 : Nat) : Int)) old) ∧ k.at it (i + 1) s2.heap) ∧ ∀ b ∈ [e, it], H' b = none) E l1 ⟨he, t1⟩ fun v h' tk hY st' hk _ => ?_
    obtain ⟨T, t, x, rfl, hT, p1, hTup⟩ := hY
    obtain ⟨x', e1, r1⟩ := b1 _ _ p1
    have new : ObjOk X.prog X.w (upd H T (.tup [.int (i : Nat), x'])) h' T (.tup [.int (i : Nat), x']) :=
      ⟨by show 2 ≤ sizeLine; decide, [.int (0 + (i : Int)) t, x], .cons ⟨t, by simp⟩ (.cons r1 .nil), by obtain ⟨o, h1, h2, n, h3⟩ := hTup; exact ⟨o, h1, h2, n, h3⟩⟩
    have I1 : Inv X pins σ (upd H T (.tup [.int (i : Nat), x'])) { s with heap := h', toks := tk } := I.turnedNew (ch := [e, it]) (fun c o hb q => hk c o hb q) hf hT new
    refine ⟨.ref T, _, I1, rfl, ⟨T, x', rfl, I.hok.fresh hT, rfl, e1⟩, ⟨st'.1, a1 _ _ st'.2⟩, fun c hcm => ?_⟩
    have hlt : c < s.heap.objs.size := by
      have e' : c = e ∨ c = it := by simpa using hcm
      obtain ⟨old, he⟩ := he
      rcases e' with q | q
      · rw [q]; exact Heap.lt_size he
      · rw [q]; obtain ⟨_, z, _⟩ := Kd.ob h1; exact Heap.lt_size z
    rw [upd_ne (Nat.ne_of_lt (Nat.lt_of_lt_of_le hlt hT))]
    exact (hf c hcm).1
  done := by
    intro X hP hw hK hc i pins s σ H E I hf st hg
    subst hP hw hK
    obtain ⟨he, h1⟩ := st
    obtain ⟨q1, l⟩ := hg
    subst l
    have hh : X.A.in1.handled = none := by simp [I.ok.hd hc]
    obtain ⟨P1, T1, D1, t1, a1, b1⟩ := Kd.draws (A := X.A.in1) I q1 h1 n1 hh
    have W := GoesN.enumFrom (elts := elts) (x1 := kk) (pos := tpos) 0 D1 e hei hef (by simp)
    exact W.stops s (fun s2 => Inv X pins σ H s2) E ⟨he, t1⟩ fun h' tk hk _ => I.turnedL (ch := [e, it]) (fun c o hb q => hk c o hb q) hf
  self := fun A i s Q E st h => let ⟨⟨_, he⟩, _⟩ := st; wpAny_pyIter_enum he h
def iEnumK (K : PySem.W.Frag) (ta : TA) : TI := fun σ H R => ta σ H fun vs H1 => ∃ (c : Cd) (xs : List V), vs = [c.v] ∧ (∀ t, (c.kd t).src K H1 xs) ∧ ∀ t, R (ItE K (c.kd t) xs) H1
theorem pi_enumK {X : Cx} {e : Expr} {ta : TA} {p pos tpos : Pos} {elts : List Expr} {kk : Nat} (hg : Gl X "enumerate") (hm : X.mg "enumerate" = none) (ha : PA X [e] ta) (hs : starEach [e] X.env = [(false, eval e X.env)] := by rfl) :
    PI X (.Tuple elts kk tpos) (.Call (.Name "enumerate" p) [e] [] pos) (iEnumK X.K ta) := by
  refine ⟨fun pins s σ H R I h => ?_⟩
  refine Call_ (ld_blt I hg hm boot_enumerate (PyProof.Rows.callWith_type1 (thn (ha.run pos pins s σ H _ I h) fun us s1 ⟨vs, H1, I1, r1, q1⟩ => ?_) hs rfl))
  obtain ⟨c, xs, ex, k1, q⟩ := q1
  subst ex
  cases r1 with
  | cons r rr =>
    cases rr
    obtain ⟨t1, o1, B1, _, b1, p1, a1, l1⟩ := Cd.begins I1 r k1
    refine enum_begins1 b1 p1 fun h' he g1 hsz hk => wpAny_pyIter_enum he ?_
    have I2 : Inv X pins σ H1 { s1 with heap := h' } := I1.kept (t' := s1.toks) hk
    refine ⟨s1.heap.objs.size + 1, [s1.heap.objs.size + 1, s1.heap.objs.size], _, _, H1, rfl, I2, turn_enumK (Nat.succ_ne_self _) (fun hm => ?_) (fun a ha => Nat.ne_of_lt (l1 a ha)), ⟨⟨.none, he⟩, a1 _ _ g1⟩, fun b hb => ?_, q t1⟩
    · rcases List.mem_cons.mp hm with z | z
      · exact Nat.succ_ne_self _ z
      · have : (s1.heap.objs.size + 1 : Nat) < s1.heap.objs.size := l1 _ z
        omega
    · have e' : b = s1.heap.objs.size + 1 ∨ b = s1.heap.objs.size := by simpa using hb
      have hle : s1.heap.objs.size ≤ b := by
        rcases e' with z | z
        · rw [z]; exact Nat.le_add_right _ _
        · rw [z]; exact Nat.le_refl _
      exact I1.fpOk hle (I1.hok.fresh hle)
/-! ### .. as data -/
def srcD : D → Option (List D)
  | .lst ds => some ds
  | .tup ds => some ds
  | .str cs => some (cs.map fun c => .str [c])
  | _ => none
theorem src_ok {K : PySem.W.Frag} {M : Hp} {ι : List Addr} {x : D} {v : V} {ds : List D} (r : Rep K M ι x v) (h : srcD x = some ds) : ∃ (c : Cd) (xs : List V), v = c.v ∧ RepL K M ds xs ∧ ∀ H, Ex M H → ∀ t, (c.kd t).src K H xs := by
  cases x with
  | lst ds' =>
    cases h
    obtain ⟨a, vs, rfl, h1, h2⟩ := r.lst
    exact ⟨.li a, vs, rfl, h2, fun H e t => SqL.of (e _ _ h1)⟩
  | tup ds' =>
    cases h
    obtain ⟨a, vs, rfl, h1, h2⟩ := r.tup
    exact ⟨.tu a, vs, rfl, h2, fun H e t => Ex.t e h1.sq⟩
  | str cs =>
    cases h
    obtain ⟨rfl, o⟩ := r.str
    refine ⟨.tx ⟨cs.toArray⟩, cs.map fun c => V.str ⟨#[c]⟩, rfl, ?_, fun H e t => by show _ = _; simp⟩
    clear r
    induction cs with
    | nil => exact .nil
    | cons c cs ih =>
      refine .cons (by unfold RepF; exact ⟨rfl, okS_mem o (by simp)⟩) (ih ?_)
      unfold okS at o ⊢
      rw [List.all_cons, Bool.and_eq_true] at o
      exact o.2
  | _ => cases h
def pairs (xs ys : List D) : List D := List.zipWith (fun a b => .tup [a, b]) xs ys
theorem RepL.flatAt {K : PySem.W.Frag} {M : Hp} {ι : List Addr} {d : D} {v : V} (h : RepF K M d v) : Rep K M ι d v := Rep.of h
theorem itOk_zip {K : PySem.W.Frag} {M : Hp} {c1 c2 : Cd} {t1 t2 : Tok} {xs ys : List V} {ds es : List D} (r1 : RepL K M ds xs) (r2 : RepL K M es ys) (s1 : ∀ H, Ex M H → ∀ t, (c1.kd t).src K H xs) (s2 : ∀ H, Ex M H → ∀ t, (c2.kd t).src K H ys) : ItOk K M (ItZ K (c1.kd t1) (c2.kd t2) xs ys) (pairs ds es) := by
  intro i M1 ι1 s H1 e C
  have e1 : Ex M H1 := Ex.trans e C.sub
  have hl : (pairs ds es).length = min xs.length ys.length := by rw [r1.length, r2.length]; simp [pairs]
  constructor
  · intro d hd
    have hi : i < min xs.length ys.length := by rw [← hl]; exact (List.getElem?_eq_some_iff.mp hd).1
    refine ⟨⟨s1 _ e1 _, s2 _ e1 _, by omega, by omega⟩, fun v' H2 y => ?_⟩
    obtain ⟨T, x, y, rfl, hT, rfl, hx, hy⟩ := y
    obtain ⟨dx, h1, h2⟩ := r1.getV hx
    obtain ⟨dy, h3, h4⟩ := r2.getV hy
    have hd' : d = .tup [dx, dy] := by
      unfold pairs at hd
      rw [List.getElem?_zipWith, h1, h3] at hd
      exact (Option.some.inj hd).symm
    subst hd'
    obtain ⟨C2, t2⟩ := C.laid (o := .tup [x, y]) hT
    exact ⟨_, t2, C2, Rep.of (by unfold RepF; exact ⟨T, _, rfl, .inl upd_same, .cons ((h2.mono e).mono t2.mm) (.cons ((h4.mono e).mono t2.mm) .nil)⟩)⟩
  · intro hi
    exact ⟨s1 _ e1 _, s2 _ e1 _, by rw [hi, hl]⟩
def numbered : Nat → List D → List D
  | _, [] => []
  | n, d :: ds => .tup [.int (n : Int), d] :: numbered (n + 1) ds
theorem numbered_len : ∀ (n : Nat) (ds : List D), (numbered n ds).length = ds.length
  | _, [] => rfl
  | n, d :: ds => by simp [numbered, numbered_len (n + 1) ds]
theorem numbered_get : ∀ (n : Nat) (ds : List D) (i : Nat), (numbered n ds)[i]? = ds[i]?.map fun d => .tup [.int ((n + i : Nat) : Int), d]
  | _, [], i => by simp [numbered]
  | n, d :: ds, 0 => by simp [numbered]
  | n, d :: ds, i + 1 => by
    have := numbered_get (n + 1) ds i
    simp only [numbered, List.getElem?_cons_succ, this]
    congr 1; funext x; rw [show n + 1 + i = n + (i + 1) by omega]
theorem itOk_enum {K : PySem.W.Frag} {M : Hp} {c1 : Cd} {t1 : Tok} {xs : List V} {ds : List D} (r1 : RepL K M ds xs) (s1 : ∀ H, Ex M H → ∀ t, (c1.kd t).src K H xs) : ItOk K M (ItE K (c1.kd t1) xs) (numbered 0 ds) := by
  intro i M1 ι1 s H1 e C
  have e1 : Ex M H1 := Ex.trans e C.sub
  have hl : (numbered 0 ds).length = xs.length := by rw [r1.length, numbered_len]
  constructor
  · intro d hd
    have hi : i < xs.length := by rw [← hl]; exact (List.getElem?_eq_some_iff.mp hd).1
    refine ⟨⟨s1 _ e1 _, hi⟩, fun v' H2 y => ?_⟩
    obtain ⟨T, x, rfl, hT, rfl, hx⟩ := y
    obtain ⟨dx, h1, h2⟩ := r1.getV hx
    have hd' : d = .tup [.int (i : Nat), dx] := by
      rw [numbered_get, h1] at hd
      rw [← Option.some.inj hd]; simp
    subst hd'
    obtain ⟨C2, t2⟩ := C.laid (o := .tup [.int (i : Nat), x]) hT
    exact ⟨_, t2, C2, Rep.of (by unfold RepF; exact ⟨T, _, rfl, .inl upd_same, .cons (by unfold RepF; rfl) (.cons ((h2.mono e).mono t2.mm) .nil)⟩)⟩
  · intro hi
    exact ⟨s1 _ e1 _, by rw [hi, hl]⟩
def zipF (fr : AF) : AF := fun δ s => (fr δ s).bind fun ds s1 => match ds with
  | [x, y] => match srcD x, srcD y with
    | some xs, some ys => .val (pairs xs ys) s1
    | _, _ => .stuck
  | _ => .stuck
def enumF (fr : AF) : AF := fun δ s => (fr δ s).bind fun ds s1 => match ds with
  | [x] => match srcD x with
    | some xs => .val (numbered 0 xs) s1
    | none => .stuck
  | _ => .stuck
section
variable {X : Cx} {cl : Nat → Value} {W : WX} {e a b : Expr} {fr : AF} {pos : Pos}
theorem ji_zip {p tpos : Pos} {elts : List Expr} {kk : Nat} (hg : Gl X "zip") (hm : X.mg "zip" = none) (ha : JA X cl W [a, b] fr) (hs : starEach [a, b] X.env = (false, eval a X.env) :: starEach [b] X.env := by rfl) (hpl : (backTo pos (starEach [b] X.env)).any (·.1) = false := by rfl) :
    JI X cl W (.Tuple elts kk tpos) (.Call (.Name "zip" p) [a, b] [] pos) (zipF fr) := (pi_zipK hg hm ha hs hpl).imp fun σ H R h => by
  obtain ⟨M, ι, δ, s, C, S, P⟩ := h
  refine ⟨M, ι, δ, s, C, S, Post.mono (Post.bind (Reps X.K) P) fun u H1 m => ?_⟩
  obtain ⟨M1, ι1, x, s1, t1, C1, r1, P1⟩ := m.ex
  split at P1
  · split at P1
    · rename_i h1 h2
      obtain ⟨u, w, rfl, r2, r3⟩ := r1.two
      obtain ⟨c1, vs, rfl, q1, z1⟩ := src_ok r2 h1
      obtain ⟨c2, us, rfl, q2, z2⟩ := src_ok r3 h2
      exact ⟨c1, c2, vs, us, rfl, z1 _ C1.sub, z2 _ C1.sub, fun t1 t2 => Post.now (C := CI X.K) P1 C1 (itOk_zip q1 q2 z1 z2)⟩
    · exact P1.elim
  · exact P1.elim
theorem ji_enum {p tpos : Pos} {elts : List Expr} {kk : Nat} (hg : Gl X "enumerate") (hm : X.mg "enumerate" = none) (ha : JA X cl W [a] fr) (hs : starEach [a] X.env = [(false, eval a X.env)] := by rfl) :
    JI X cl W (.Tuple elts kk tpos) (.Call (.Name "enumerate" p) [a] [] pos) (enumF fr) := (pi_enumK hg hm ha hs).imp fun σ H R h => by
  obtain ⟨M, ι, δ, s, C, S, P⟩ := h
  refine ⟨M, ι, δ, s, C, S, Post.mono (Post.bind (Reps X.K) P) fun u H1 m => ?_⟩
  obtain ⟨M1, ι1, x, s1, t1, C1, r1, P1⟩ := m.ex
  split at P1
  · split at P1
    · rename_i h1
      obtain ⟨u, rfl, r2⟩ := r1.one
      obtain ⟨c1, vs, rfl, q1, z1⟩ := src_ok r2 h1
      exact ⟨c1, vs, rfl, z1 _ C1.sub, fun t1 => Post.now (C := CI X.K) P1 C1 (itOk_enum q1 z1)⟩
    · exact P1.elim
  · exact P1.elim
end
end Fl
set_option Elab.async false
set_option linter.all false
set_option maxRecDepth 100000
namespace Fl
open PySem PySem.Spec PyProof.Rows L2
/-! ### in -/
def atomD : D → Bool
  | .non => true
  | .bl _ => true
  | .int _ => true
  | .str _ => true
  | _ => false
theorem atom_v {K : PySem.W.Frag} {M : Hp} {x : D} {v : V} (h : RepF K M x v) (a : atomD x = true) : flatV v = true := by
  cases x with
  | non => unfold RepF at h; subst h; rfl
  | bl b => unfold RepF at h; subst h; rfl
  | int b => unfold RepF at h; subst h; rfl
  | str b => unfold RepF at h; obtain ⟨rfl, _⟩ := h; rfl
  | _ => cases a
theorem atom_eq {K : PySem.W.Frag} {M M' : Hp} {x z : D} {v u : V} (h : RepF K M x v) (a : atomD x = true) (h' : RepF K M' z u) (a' : atomD z = true) : eqV u v = deq z x := by
  cases x with
  | non => unfold RepF at h; subst h; cases z with
    | non => unfold RepF at h'; subst h'; simp [eqV, deq, toPy, PyData.eqv]
    | bl b => unfold RepF at h'; subst h'; simp [eqV, deq, toPy, PyData.eqv]
    | int b => unfold RepF at h'; subst h'; simp [eqV, deq, toPy, PyData.eqv]
    | str b => unfold RepF at h'; obtain ⟨rfl, _⟩ := h'; simp [eqV, deq, toPy, PyData.eqv]
    | _ => cases a'
  | bl b => unfold RepF at h; subst h; cases z with
    | non => unfold RepF at h'; subst h'; simp [eqV, deq, toPy, PyData.eqv]
    | bl b => unfold RepF at h'; subst h'; simp [eqV, deq, toPy, PyData.eqv]
    | int b => unfold RepF at h'; subst h'; simp [eqV, deq, toPy, PyData.eqv]
    | str b => unfold RepF at h'; obtain ⟨rfl, _⟩ := h'; simp [eqV, deq, toPy, PyData.eqv]
    | _ => cases a'
  | int b => unfold RepF at h; subst h; cases z with
    | non => unfold RepF at h'; subst h'; simp [eqV, deq, toPy, PyData.eqv]
    | bl b => unfold RepF at h'; subst h'; simp [eqV, deq, toPy, PyData.eqv]
    | int b => unfold RepF at h'; subst h'; simp [eqV, deq, toPy, PyData.eqv]
    | str b => unfold RepF at h'; obtain ⟨rfl, _⟩ := h'; simp [eqV, deq, toPy, PyData.eqv]
    | _ => cases a'
  | str b => unfold RepF at h; obtain ⟨rfl, _⟩ := h; cases z with
    | non => unfold RepF at h'; subst h'; simp [eqV, deq, toPy, PyData.eqv]
    | bl b => unfold RepF at h'; subst h'; simp [eqV, deq, toPy, PyData.eqv]
    | int b => unfold RepF at h'; subst h'; simp [eqV, deq, toPy, PyData.eqv]
    | str b => unfold RepF at h'; obtain ⟨rfl, _⟩ := h'; simp [eqV, deq, toPy, PyData.eqv]
    | _ => cases a'
  | _ => cases a
theorem atoms_v {K : PySem.W.Frag} {M : Hp} : ∀ {ds : List D} {vs : List V}, RepL K M ds vs → ds.all atomD = true → vs.all flatV = true
  | [], _, h, _ => by rw [h.unnil]; rfl
  | d :: ds, _, h, a => by
    obtain ⟨v, r, rfl, h1, h2⟩ := h.uncons
    simp only [List.all_cons, Bool.and_eq_true] at a ⊢
    exact ⟨atom_v h1 a.1, atoms_v h2 a.2⟩
theorem atoms_in {K : PySem.W.Frag} {M M' : Hp} {x : D} {v : V} (h : RepF K M x v) (a : atomD x = true) : ∀ {ds : List D} {vs : List V}, RepL K M' ds vs → ds.all atomD = true → inV v vs = ds.any fun z => deq z x
  | [], _, h, _ => by rw [h.unnil]; rfl
  | d :: ds, _, h', a' => by
    obtain ⟨u, r, rfl, h1, h2⟩ := h'.uncons
    simp only [List.all_cons, Bool.and_eq_true] at a'
    have := atoms_in h a h2 a'.2
    unfold inV at this ⊢
    rw [List.any_cons, List.any_cons, this, atom_eq h a h1 a'.1]
def isIn (x : D) (ds : List D) : Bool := ds.any fun z => deq z x
def inB (s : Sto) (x y : D) : Option Bool := match view s y with
  | .str z => match x with
    | .str [c] => some (decide (c ∈ z))
    | _ => none
  | .lst ds => if dep (view s x) ≤ 60 ∧ deps ds ≤ 59 then some (isIn (view s x) ds) else none
  | .tup ds => if atomD x = true ∧ ds.all atomD = true then some (isIn x ds) else none
  | _ => none
def inG : Op2 := fun s x y => match inB s x y with
  | some b => .val (.bl b) s
  | none => .stuck
def ninG : Op2 := fun s x y => match inB s x y with
  | some b => .val (.bl (!b)) s
  | none => .stuck
def rSign (f : Bool → Bool) : R2 := fun x y H Q => ∃ (c : Nat) (z : Str), x = .str ⟨#[c]⟩ ∧ y = .str z ∧ Q (.bl (f (decide (c ∈ z.cps.toList)))) H
def rInX (K : PySem.W.Frag) (f : Bool → Bool) : R2 := fun x y H Q => ∃ d ds, Dp K H x d ∧ Dp K H y (.list ds) ∧ SeqAt.shaped d = true ∧ SeqAt.shaped (.list ds) = true ∧ Q (.bl (f (ds.any fun z => PyData.eqv z d))) H
def rInU (K : PySem.W.Frag) : R2 := fun x y H Q => (rSign id x y H Q ∨ rInX K id x y H Q) ∨ rIn K false x y H Q
def rNinU (K : PySem.W.Frag) : R2 := fun x y H Q => (rSign not x y H Q ∨ rInX K not x y H Q) ∨ rIn K true x y H Q
theorem op_inU {X : Cx} (hu : X.A.units + 65 < cLine) : OpR X (compareOp .In) (rInU X.K) := (OpR.or (r := rSign id) (r' := rInX X.K id) op_in_sign (op_inD hu)).or op_in_seq
theorem op_ninU {X : Cx} (hu : X.A.units + 65 < cLine) : OpR X (compareOp .NotIn) (rNinU X.K) := (OpR.or (r := rSign not) (r' := rInX X.K not) op_notIn_sign (op_notInD hu)).or op_notIn_seq
theorem toPys_any {x : D} : ∀ ds : List D, (toPys ds).any (fun z => PyData.eqv z (toPy x)) = isIn x ds
  | [] => rfl
  | d :: ds => by
    unfold toPys isIn
    rw [List.any_cons, List.any_cons, toPys_any ds]; rfl
theorem in_main {K : PySem.W.Frag} (neg : Bool) {M : Hp} {ι : List Addr} {s : Sto} {H : Hp} {x y : D} {u v : V} {b : Bool} {Q : VK} (C : Conc K M ι s H) (rx : Rep K M ι x u) (ry : Rep K M ι y v) (e : inB s x y = some b) (q : Q (.bl (if neg then !b else b)) H) :
    (rSign (fun b => if neg then !b else b) u v H Q ∨ rInX K (fun b => if neg then !b else b) u v H Q) ∨ rIn K neg u v H Q := by
  have sy := C.sees ry
  unfold inB at e
  split at e
  · rename_i z e1
    rw [e1] at sy
    split at e
    · rename_i c
      cases e
      obtain ⟨rfl, _⟩ := sy.str
      obtain ⟨rfl, _⟩ := rx.str
      exact .inl (.inl ⟨c, _, rfl, rfl, q⟩)
    · cases e
  · rename_i ds e1
    rw [e1] at sy
    split at e
    · rename_i hd
      cases e
      have sx := C.sees rx
      have dy : dep (.lst ds) ≤ 60 := by unfold dep; omega
      have p := sy.dp C.sub (by omega)
      have l := sy.shaped dy
      unfold toPy at p l
      refine .inl (.inr ⟨_, _, sx.dp C.sub (by omega), p, sx.shaped hd.1, l, ?_⟩)
      rw [toPys_any]
      exact q
    · cases e
  · rename_i ds e1
    rw [e1] at sy
    split at e
    · rename_i hd
      cases e
      obtain ⟨a, vs, rfl, h1, r1⟩ := sy.tup
      have rx' : RepF K M x u := rx.f (by cases x <;> first | rfl | (have z := hd.1; cases z))
      refine .inr ⟨a, vs, rfl, .inr (Ex.t C.sub h1.sq), atom_v rx' hd.1, atoms_v r1 hd.2, ?_⟩
      rw [atoms_in rx' hd.1 r1 hd.2]
      exact q
    · cases e
  · cases e
theorem ok_in {K : PySem.W.Frag} : Ok2 K (rInU K) inG := fun Wx M ι s H x y u v Q C rx ry P => by
  unfold inG at P
  split at P
  · rename_i b e
    exact in_main false C rx ry e (Post.now (C := Rep K) P C rf_bl)
  · exact P.elim
theorem ok_nin {K : PySem.W.Frag} : Ok2 K (rNinU K) ninG := fun Wx M ι s H x y u v Q C rx ry P => by
  unfold ninG at P
  split at P
  · rename_i b e
    exact in_main true C rx ry e (Post.now (C := Rep K) P C rf_bl)
  · exact P.elim
/-! ### min, max, all, tuple -/
def intsD : List D → Option (List Int)
  | [] => some []
  | .int i :: ds => (intsD ds).map (i :: ·)
  | _ => none
def blsD : List D → Option (List Bool)
  | [] => some []
  | .bl i :: ds => (blsD ds).map (i :: ·)
  | _ => none
def strsD : List D → Option (List (List Nat))
  | [] => some []
  | .str i :: ds => (strsD ds).map (i :: ·)
  | _ => none
theorem ints_v {K : PySem.W.Frag} {M : Hp} : ∀ {ds : List D} {vs : List V} {ns : List Int}, RepL K M ds vs → intsD ds = some ns → vs = ns.map V.int
  | [], _, _, h, e => by cases e; rw [h.unnil]; rfl
  | d :: ds, _, ns, h, e => by
    obtain ⟨v, r, rfl, h1, h2⟩ := h.uncons
    cases d with
    | int i =>
      unfold intsD at e
      obtain ⟨ms, h3, rfl⟩ := Option.map_eq_some_iff.mp e
      unfold RepF at h1; subst h1
      rw [ints_v h2 h3]; rfl
    | _ => cases e
theorem bls_v {K : PySem.W.Frag} {M : Hp} : ∀ {ds : List D} {vs : List V} {ns : List Bool}, RepL K M ds vs → blsD ds = some ns → vs = ns.map V.bl
  | [], _, _, h, e => by cases e; rw [h.unnil]; rfl
  | d :: ds, _, ns, h, e => by
    obtain ⟨v, r, rfl, h1, h2⟩ := h.uncons
    cases d with
    | bl i =>
      unfold blsD at e
      obtain ⟨ms, h3, rfl⟩ := Option.map_eq_some_iff.mp e
      unfold RepF at h1; subst h1
      rw [bls_v h2 h3]; rfl
    | _ => cases e
theorem strs_v {K : PySem.W.Frag} {M : Hp} : ∀ {ds : List D} {vs : List V} {ns : List (List Nat)}, RepL K M ds vs → strsD ds = some ns → vs = ns.map (fun cs => V.str ⟨cs.toArray⟩) ∧ ∀ cs ∈ ns, okS cs = true
  | [], _, _, h, e => by cases e; rw [h.unnil]; exact ⟨rfl, fun _ z => nomatch z⟩
  | d :: ds, _, ns, h, e => by
    obtain ⟨v, r, rfl, h1, h2⟩ := h.uncons
    cases d with
    | str i =>
      unfold strsD at e
      obtain ⟨ms, h3, rfl⟩ := Option.map_eq_some_iff.mp e
      unfold RepF at h1
      obtain ⟨rfl, o⟩ := h1
      obtain ⟨q1, q2⟩ := strs_v h2 h3
      rw [q1]
      refine ⟨rfl, fun cs z => ?_⟩
      rcases List.mem_cons.mp z with rfl | z
      · exact o
      · exact q2 cs z
    | _ => cases e
def minL (ns : List Int) : Int := ns.min?.getD 0
def maxL (ns : List Int) : Int := ns.max?.getD 0
def minG (s : Sto) : List D → O D
  | [.int i, .int j] => .val (.int (if j < i then j else i)) s
  | [x] => match view s x with
    | .lst ds => match intsD ds with
      | some ns => if 0 < ns.length then .val (.int (minL ns)) s else .stuck
      | none => .stuck
    | _ => .stuck
  | _ => .stuck
def maxG (s : Sto) : List D → O D
  | [.int i, .int j] => .val (.int (if j > i then j else i)) s
  | [x] => match view s x with
    | .lst ds => match intsD ds with
      | some ns => if 0 < ns.length then .val (.int (maxL ns)) s else .stuck
      | none => .stuck
    | _ => .stuck
  | _ => .stuck
def rMin2 : List V → Hp → VK → Prop := fun xs H Q => ∃ i j, xs = [.int i, .int j] ∧ Q (.int (if j < i then j else i)) H
def rMax2 : List V → Hp → VK → Prop := fun xs H Q => ∃ i j, xs = [.int i, .int j] ∧ Q (.int (if j > i then j else i)) H
theorem call_minU {X : Cx} (hc : X.calm = true) : CallR X (.builtin "min") (fun xs H Q => rMin2 xs H Q ∨ rMin X.K xs H Q) := CallR.or (r := rMin2) (call_min2 hc) (cr_min hc)
theorem call_maxU {X : Cx} (hc : X.calm = true) : CallR X (.builtin "max") (fun xs H Q => rMax2 xs H Q ∨ rMax X.K xs H Q) := CallR.or (r := rMax2) (call_max2 hc) (cr_max hc)
theorem min_at {ns : List Int} (h : 0 < ns.length) {m : Int} (h1 : m ∈ ns) (h2 : ∀ y ∈ ns, m ≤ y) : m = minL ns := by
  have : ns.min? = some m := List.min?_eq_some_iff.mpr ⟨h1, h2⟩
  rw [minL, this]; rfl
theorem max_at {ns : List Int} (h : 0 < ns.length) {m : Int} (h1 : m ∈ ns) (h2 : ∀ y ∈ ns, y ≤ m) : m = maxL ns := by
  have : ns.max? = some m := List.max?_eq_some_iff.mpr ⟨h1, h2⟩
  rw [maxL, this]; rfl
theorem ok_min {K : PySem.W.Frag} : OkN K (fun xs H Q => rMin2 xs H Q ∨ rMin K xs H Q) minG := fun Wx M ι s H xs us Q C r P => by
  unfold minG at P
  split at P
  · obtain ⟨u, w, rfl, rx, ry⟩ := r.two
    exact .inl ⟨_, _, by rw [rx.int, ry.int], Post.now (C := Rep K) P C rf_int⟩
  · obtain ⟨u, rfl, rx⟩ := r.one
    have s1 := C.sees rx
    split at P
    · rename_i ds e
      rw [e] at s1
      split at P
      · rename_i ns hn
        split at P
        · rename_i hl
          obtain ⟨a, vs, rfl, h1, r1⟩ := s1
          rw [ints_v r1 hn] at h1
          exact .inr ⟨a, ns, rfl, SqL.of h1, hl, fun m q1 q2 => by rw [min_at hl q1 q2]; exact Post.now (C := Rep K) P C rf_int⟩
        · exact P.elim
      · exact P.elim
    · exact P.elim
  · exact P.elim
theorem ok_max {K : PySem.W.Frag} : OkN K (fun xs H Q => rMax2 xs H Q ∨ rMax K xs H Q) maxG := fun Wx M ι s H xs us Q C r P => by
  unfold maxG at P
  split at P
  · obtain ⟨u, w, rfl, rx, ry⟩ := r.two
    exact .inl ⟨_, _, by rw [rx.int, ry.int], Post.now (C := Rep K) P C rf_int⟩
  · obtain ⟨u, rfl, rx⟩ := r.one
    have s1 := C.sees rx
    split at P
    · rename_i ds e
      rw [e] at s1
      split at P
      · rename_i ns hn
        split at P
        · rename_i hl
          obtain ⟨a, vs, rfl, h1, r1⟩ := s1
          rw [ints_v r1 hn] at h1
          exact .inr ⟨a, ns, rfl, SqL.of h1, hl, fun m q1 q2 => by rw [max_at hl q1 q2]; exact Post.now (C := Rep K) P C rf_int⟩
        · exact P.elim
      · exact P.elim
    · exact P.elim
  · exact P.elim
def allG (s : Sto) : List D → O D
  | [x] => match view s x with
    | .lst ds => match blsD ds with
      | some bs => .val (.bl (bs.all id)) s
      | none => .stuck
    | _ => .stuck
  | _ => .stuck
theorem ok_all {K : PySem.W.Frag} : OkN K (rAll K) allG := fun Wx M ι s H xs us Q C r P => by
  unfold allG at P
  split at P
  · obtain ⟨u, rfl, rx⟩ := r.one
    have s1 := C.sees rx
    split at P
    · rename_i ds e
      rw [e] at s1
      split at P
      · rename_i bs hn
        obtain ⟨a, vs, rfl, h1, r1⟩ := s1
        rw [bls_v r1 hn] at h1
        exact ⟨a, bs, rfl, SqL.of h1, Post.now (C := Rep K) P C rf_bl⟩
      · exact P.elim
    · exact P.elim
  · exact P.elim
def sumG (s : Sto) : List D → O D
  | [x] => match view s x with
    | .lst ds => match intsD ds with
      | some ns => .val (.int ns.sum) s
      | none => .stuck
    | _ => .stuck
  | _ => .stuck
theorem ok_sum {K : PySem.W.Frag} : OkN K (rSum K) sumG := fun Wx M ι s H xs us Q C r P => by
  unfold sumG at P
  split at P
  · obtain ⟨u, rfl, rx⟩ := r.one
    have s1 := C.sees rx
    split at P
    · rename_i ds e
      rw [e] at s1
      split at P
      · rename_i bs hn
        obtain ⟨a, vs, rfl, h1, r1⟩ := s1
        rw [ints_v r1 hn] at h1
        exact ⟨a, bs, rfl, SqL.of h1, Post.now (C := Rep K) P C rf_int⟩
      · exact P.elim
    · exact P.elim
  · exact P.elim
def tupleG (s : Sto) : List D → O D
  | [x] => match view s x with
    | .lst ds => .val (.tup ds) s
    | .tup ds => .val (.tup ds) s
    | _ => .stuck
  | _ => .stuck
def rTupU (K : PySem.W.Frag) : List V → Hp → VK → Prop := fun xs H Q => ∃ p ys, xs = [.ref p] ∧ ((SqL K H p ys ∧ ∀ l, H l = none → Q (.ref l) (upd H l (.tup ys))) ∨ (SqT K H p ys ∧ Q (.ref p) H))
theorem call_tupU {X : Cx} : CallR X (.type "tuple") (rTupU X.K) := call_tuple_of
theorem ok_tuple {K : PySem.W.Frag} : OkN K (rTupU K) tupleG := fun Wx M ι s H xs us Q C r P => by
  unfold tupleG at P
  split at P
  · obtain ⟨u, rfl, rx⟩ := r.one
    have s1 := C.sees rx
    split at P
    · rename_i ds e
      rw [e] at s1
      obtain ⟨a, vs, rfl, h1, r1⟩ := s1
      exact ⟨a, vs, rfl, .inl ⟨SqL.of h1, fun l hl => Post.laidT P C r1 hl⟩⟩
    · rename_i ds e
      rw [e] at s1
      obtain ⟨a, vs, rfl, h1, r1⟩ := s1.tup
      exact ⟨a, vs, rfl, .inr ⟨Ex.t C.sub h1.sq, Post.now (C := Rep K) P C (Rep.of (by unfold RepF; exact ⟨a, vs, rfl, h1, r1⟩))⟩⟩
    · exact P.elim
  · exact P.elim
/-! ### methods of lists of one's own -/
def isOwn (s : Sto) : D → Bool
  | .ob k => match s[k]? with
    | some (.lst _) => true
    | _ => false
  | _ => false
theorem ty_own {K : PySem.W.Frag} : TyM K "list" isOwn := fun M ι s H x u C r h => by
  cases x with
  | ob k =>
    obtain ⟨a, rfl, hk⟩ := r
    unfold isOwn at h
    simp only at h
    split at h
    · rename_i ds e
      obtain ⟨_, vs, h1, _⟩ := C.obs k a _ hk e
      exact .inl ⟨rfl, vs, SqL.of h1⟩
    · cases h
  | _ => cases h
def appG (s : Sto) (x : D) : List D → O D
  | [d] => match x with
    | .ob k => match s[k]? with
      | some (.lst ds) => if ds.length < 16000000 then .val .non (s.set k (.lst (ds ++ [d]))) else .stuck
      | _ => .stuck
    | _ => .stuck
  | _ => .stuck
theorem lim_lt {n : Nat} (h : n < 16000000) : n < sizeLine := Nat.lt_of_lt_of_le h (by decide)
theorem ok_app {K : PySem.W.Frag} : OkM K "list" rAppend appG := fun Wx M ι s H x u xs us Q C rx rs P => by
  unfold appG at P
  split at P
  · split at P
    · rename_i k
      split at P
      · rename_i ds e
        split at P
        · rename_i hl
          obtain ⟨w, rfl, rd⟩ := rs.one
          obtain ⟨a, rfl, hk⟩ := rx
          obtain ⟨hM, vs, h1, r1⟩ := C.obs k a _ hk e
          obtain ⟨C2, t2⟩ := C.put (o := .lst (vs ++ [w])) (u := .lst (ds ++ [_])) hk hM ⟨hM, _, upd_same, r1.append (.cons rd .nil)⟩
          exact ⟨a, vs, w, rfl, rfl, h1, by rw [r1.length]; exact lim_lt hl, P _ _ _ _ t2 C2 rf_non⟩
        · exact P.elim
      · exact P.elim
    · exact P.elim
  · exact P.elim
end Fl
set_option Elab.async false
set_option linter.all false
set_option maxRecDepth 100000
namespace Fl
open PySem PySem.Spec PyProof.Rows L2 TL
/-! ### extend -/
def extG (s : Sto) (x : D) : List D → O D
  | [y] => match x, view s y with
    | .ob k, .lst es => match s[k]? with
      | some (.lst ds) => if ds.length + es.length ≤ 16000000 then .val .non (s.set k (.lst (ds ++ es))) else .stuck
      | _ => .stuck
    | _, _ => .stuck
  | _ => .stuck
theorem ok_ext {K : PySem.W.Frag} : OkM K "list" rExtend extG := fun Wx M ι s H x u xs us Q C rx rs P => by
  unfold extG at P
  split at P
  · rename_i y
    obtain ⟨w, rfl, ry⟩ := rs.one
    have sy := C.sees ry
    split at P
    · rename_i k es e1
      rw [e1] at sy
      split at P
      · rename_i ds e
        split at P
        · rename_i hl
          obtain ⟨b, ws, rfl, g1, g2⟩ := sy
          obtain ⟨a, rfl, hk⟩ := rx
          obtain ⟨hM, vs, h1, r1⟩ := C.obs k a _ hk e
          obtain ⟨C2, t2⟩ := C.put (o := .lst (vs ++ ws)) (u := .lst (ds ++ es)) hk hM ⟨hM, _, upd_same, r1.append (Reps.of g2)⟩
          exact ⟨a, b, vs, ws, rfl, rfl, h1, g1, by rw [r1.length, g2.length]; exact lim_le hl, P _ _ _ _ t2 C2 rf_non⟩
        · exact P.elim
      · exact P.elim
    · exact P.elim
  · exact P.elim
/-! ### texts: join, count -/
def isStr (s : Sto) : D → Bool
  | .str _ => true
  | _ => false
theorem ty_str {K : PySem.W.Frag} : TyM K "str" isStr := fun M ι s H x u C r h => by
  cases x with
  | str cs => obtain ⟨rfl, _⟩ := r.str; exact rfl
  | _ => cases h
theorem join_flat : ∀ xs : List (List Nat), joinL [] xs = xs.flatten
  | [] => rfl
  | [p] => by simp [joinL]
  | p :: q :: r => by
    have := join_flat (q :: r)
    show p ++ ([] ++ joinL [] (q :: r)) = _
    rw [this]; simp
def joinG (s : Sto) (x : D) : List D → O D
  | [y] => match x, view s y with
    | .str [], .lst ds => match strsD ds with
      | some xs => if xs.flatten.length ≤ 16000000 then .val (.str xs.flatten) s else .stuck
      | none => .stuck
    | _, _ => .stuck
  | _ => .stuck
def rJoin (K : PySem.W.Frag) : V → List V → Hp → VK → Prop := fun x xs H Q => ∃ a p, ∃ ys : List Str, x = .str a ∧ xs = [.ref p] ∧ (SqL K H p (ys.map V.str) ∨ SqT K H p (ys.map V.str)) ∧ (ys.map (·.length)).sum + ys.length * a.length ≤ 16777216 ∧ Q (.str (Txt.join a ys)) H
theorem tl_arr (cs : List Nat) : tl (⟨cs.toArray⟩ : Str) = cs := by simp [tl]
theorem okS_flat : ∀ {xs : List (List Nat)}, (∀ x ∈ xs, okS x = true) → okS xs.flatten = true
  | [], _ => rfl
  | x :: xs, h => by
    rw [List.flatten_cons]
    exact okS_app (h x (by simp)) (okS_flat fun y hy => h y (by simp [hy]))
theorem ok_join {K : PySem.W.Frag} : OkM K "str" (rJoin K) joinG := fun Wx M ι s H x u xs us Q C rx rs P => by
  unfold joinG at P
  split at P
  · rename_i y
    obtain ⟨w, rfl, ry⟩ := rs.one
    have sy := C.sees ry
    split at P
    · rename_i ds e1
      rw [e1] at sy
      split at P
      · rename_i zs hz
        split at P
        · rename_i hl
          obtain ⟨b, ws, rfl, g1, g2⟩ := sy
          obtain ⟨rfl, _⟩ := rx.str
          obtain ⟨q1, q2⟩ := strs_v g2 hz
          have e2 : ws = (zs.map fun cs => (⟨cs.toArray⟩ : Str)).map V.str := by rw [q1, List.map_map]; rfl
          refine ⟨⟨([] : List Nat).toArray⟩, b, zs.map fun cs => ⟨cs.toArray⟩, rfl, rfl, .inl (by rw [← e2]; exact SqL.of g1), ?_, ?_⟩
          · have : ((zs.map fun cs => (⟨cs.toArray⟩ : Str)).map (·.length)).sum = zs.flatten.length := by
              rw [List.map_map, List.length_flatten]; congr 1
            rw [this]
            show zs.flatten.length + _ * 0 ≤ 16777216
            omega
          · have e3 : Txt.join (⟨([] : List Nat).toArray⟩ : Str) (zs.map fun cs => (⟨cs.toArray⟩ : Str)) = ⟨zs.flatten.toArray⟩ := by
              rw [join_eq]
              have h1 := tl_join (⟨([] : List Nat).toArray⟩ : Str) (zs.map fun cs => (⟨cs.toArray⟩ : Str))
              rw [tl_arr, List.map_map, show (tl ∘ fun cs : List Nat => (⟨cs.toArray⟩ : Str)) = fun cs => cs from funext fun cs => tl_arr cs, List.map_id'', join_flat] at h1
              · generalize Str.join _ _ = z at h1 ⊢
                cases z with
                | mk cps => simp [tl] at h1; rw [← h1]
              · exact fun x => rfl
            rw [e3]
            exact Post.now (C := Rep K) P C (rf_str (okS_flat q2))
        · exact P.elim
      · exact P.elim
    · exact P.elim
  · exact P.elim
section
open Builtin Builtin.Str PySem.StrLaws
theorem occ_count (x : Str) (c limit : Nat) : ∀ (n a : Nat) (arr : Array Nat) (free : Nat), free ≤ a → arr.size + n ≤ limit →
    ((forIn (List.range' a n) (arr, free) (occBody x ⟨#[c]⟩ x.length limit)).run.fst).size = arr.size + ((List.range' a n).filter fun i => x.cps.toList[i]? == some c).length
  | 0, a, arr, free, _, _ => by simp
  | n + 1, a, arr, free, hf, hl => by
    rw [List.range'_succ, List.forIn_cons]
    unfold occBody
    by_cases hc : x.cps.toList[a]? = some c
    · obtain ⟨h1, h2⟩ := (subAt_one x c a).mpr hc
      rw [if_pos ⟨⟨⟨by show arr.size < limit; omega, hf⟩, h1⟩, h2⟩]
      have ih := occ_count x c limit n (a + 1) (arr.push a) (a + (⟨#[c]⟩ : Str).length) (by show a + 1 ≤ a + 1; omega) (by simp; omega)
      refine Eq.trans ih ?_
      rw [List.filter_cons_of_pos (by rw [hc]; simp)]
      simp; omega
    · have hn : ¬ (((arr.size < limit ∧ free ≤ a) ∧ a + (⟨#[c]⟩ : Str).length ≤ x.length) ∧ subAt x ⟨#[c]⟩ a = true) := fun h => hc ((subAt_one x c a).mp ⟨h.1.2, h.2⟩)
      rw [if_neg hn]
      have ih := occ_count x c limit n (a + 1) arr free (by omega) (by omega)
      refine Eq.trans ih ?_
      rw [List.filter_cons_of_neg (by simpa using hc)]
theorem filter_count (l : List Nat) (c : Nat) : ∀ (m : Nat), ((List.range' 0 (l.length + m)).filter fun i => l[i]? == some c).length = l.count c := by
  have key : ∀ (l : List Nat) (a m : Nat) (f : Nat → Option Nat), (∀ i, f (a + i) = l[i]?) → ((List.range' a (l.length + m)).filter fun i => f i == some c).length = l.count c := by
    intro l
    induction l with
    | nil =>
      intro a m f hf
      simp only [List.length_nil, Nat.zero_add, List.count_nil, List.length_eq_zero_iff, List.filter_eq_nil_iff]
      intro i hi
      obtain ⟨h1, h2⟩ := List.mem_range'_1.mp hi
      have := hf (i - a)
      rw [show a + (i - a) = i by omega] at this
      rw [this]; simp
    | cons x l ih =>
      intro a m f hf
      rw [show (x :: l).length + m = (l.length + m) + 1 by simp; omega, List.range'_succ, List.filter_cons]
      have h0 := hf 0
      simp at h0
      have ih' := ih (a + 1) m f (fun i => by rw [show a + 1 + i = a + (i + 1) by omega, hf]; simp)
      rw [h0, List.count_cons]
      by_cases e : x = c
      · subst e; simp [ih']
      · have e' : (x == c) = false := by simpa using e
        simp [e, e', ih']
  exact fun m => key l 0 m _ fun i => by simp
theorem count_one (x : Str) (c : Nat) : Txt.count x ⟨#[c]⟩ = (x.cps.toList.count c : Nat) := by
  unfold Txt.count
  rw [occ_eq, Array.length_toList]
  have h := occ_count x c (x.length + 1) (x.length + 1) 0 #[] 0 (Nat.le_refl _) (by simp)
  rw [Nat.sub_zero, h]
  have e : x.length = x.cps.toList.length := by simp [Str.length]
  rw [e, filter_count]; simp
end
def cntG (s : Sto) (x : D) : List D → O D
  | [.str [c]] => match x with
    | .str cs => .val (.int (cs.count c : Nat)) s
    | _ => .stuck
  | _ => .stuck
def rCnt : V → List V → Hp → VK → Prop := fun x xs H Q => ∃ a b, x = .str a ∧ xs = [.str b] ∧ Q (.int (Txt.count a b)) H
theorem ok_cnt {K : PySem.W.Frag} : OkM K "str" rCnt cntG := fun Wx M ι s H x u xs us Q C rx rs P => by
  unfold cntG at P
  split at P
  · rename_i c
    obtain ⟨w, rfl, ry⟩ := rs.one
    split at P
    · obtain ⟨rfl, _⟩ := rx.str
      obtain ⟨rfl, _⟩ := ry.str
      refine ⟨_, _, rfl, rfl, ?_⟩
      rw [count_one]
      exact Post.now (C := Rep K) P C (by simp; exact rf_int)
    · exact P.elim
  · exact P.elim
/-! ### slices -/
abbrev PF := Sl → Sto → O (Option Int)
abbrev CO : Car (Option Int) (Option Int) := fun _ _ a b => b = a
def rdO (K : PySem.W.Frag) (cl : Nat → Value) (W : WX) (f : PF) : TO := fun σ H Q => At K CO (wx cl W σ) f σ H Q
abbrev JO (X : Cx) (cl : Nat → Value) (W : WX) (e : Option Expr) (f : PF) : Prop := PO X e (rdO X.K cl W f)
theorem _root_.L2.PO.imp {X : Cx} {e : Option Expr} {t t' : TO} (h : PO X e t) (i : ∀ σ H Q, t' σ H Q → t σ H Q) : PO X e t' := ⟨fun pins s σ H Q I q => h.run pins s σ H Q I (i σ H Q q)⟩
def noP : PF := fun _ s => .val none s
def parF (f : EF) : PF := fun δ s => (f δ s).bind fun d s1 => match d with
  | .int i => .val (some i) s1
  | _ => .stuck
section
variable {X : Cx} {cl : Nat → Value} {W : WX} {e a b : Expr} {fa : EF} {fr : AF} {pos p2 : Pos}
theorem jo_none : JO X cl W none noP := po_none.imp fun σ H Q h => by
  obtain ⟨M, ι, δ, s, C, S, P⟩ := h
  exact Post.now (C := CO) P C rfl
theorem jo_some (h : JE X cl W e fa) : JO X cl W (some e) (parF fa) := (po_some h).imp fun σ H Q h => by
  obtain ⟨M, ι, δ, s, C, S, P⟩ := h
  refine ⟨M, ι, δ, s, C, S, Post.mono (Post.bind (Rep X.K) P) fun u H1 m => ?_⟩
  obtain ⟨M1, ι1, x, s1, t1, C1, r1, P1⟩ := m.ex
  split at P1
  · cases r1.int
    exact ⟨_, rfl, Post.now (C := CO) P1 C1 rfl⟩
  · exact P1.elim
def cutD {α : Type} (xs : List α) (lo hi : Option Int) : List α := (xs.drop (HT.sIx xs.length 0 lo)).take (HT.sIx xs.length xs.length hi - HT.sIx xs.length 0 lo)
def slG (s : Sto) (x : D) (lo hi : Option Int) : O D := match view s x with
  | .str cs => if cs.length ≤ 16000000 then .val (.str (cutD cs lo hi)) s else .stuck
  | .lst ds => .val (.lst (cutD ds lo hi)) s
  | .tup ds => .val (.tup (cutD ds lo hi)) s
  | _ => .stuck
def slF (g : Sto → D → Option Int → Option Int → O D) (fa : EF) (lo hi : PF) : EF := fun δ s => (fa δ s).bind fun x s1 => (lo δ s1).bind fun l s2 => (hi δ s2).bind fun u s3 => g s3 x l u
def rSlU (K : PySem.W.Frag) : V → Option Int → Option Int → Hp → VK → Prop := fun x lo hi H Q => (rSlS x lo hi H Q ∨ rSlL K x lo hi H Q) ∨ rSlA K x lo hi H Q
theorem sl_U {X : Cx} : SlR X (rSlU X.K) := (sl_str.or sl_list).or sl_tupA
def OkSl (K : PySem.W.Frag) (r : V → Option Int → Option Int → Hp → VK → Prop) (g : Sto → D → Option Int → Option Int → O D) : Prop := ∀ (Wx : Nat → Hp → Prop) (M : Hp) (ι : List Addr) (s : Sto) (H : Hp) (x : D) (u : V) (lo hi : Option Int) (Q : VK), Conc K M ι s H → Rep K M ι x u → Post K (Rep K) Wx M ι H (g s x lo hi) Q → r u lo hi H Q
theorem RepL.cut {K : PySem.W.Frag} {M : Hp} {ds : List D} {vs : List V} (r : RepL K M ds vs) (lo hi : Option Int) : RepL K M (cutD ds lo hi) (cutV vs lo hi) := by
  unfold cutD cutV
  rw [r.length]
  exact (r.drop _).take _
theorem okS_cut {cs : List Nat} (h : okS cs = true) (lo hi : Option Int) : okS (cutD cs lo hi) = true := by
  unfold okS at *
  rw [List.all_eq_true] at h ⊢
  exact fun c hc => h c (List.mem_of_mem_drop (List.mem_of_mem_take hc))
theorem ok_sl {K : PySem.W.Frag} : OkSl K (rSlU K) slG := fun Wx M ι s H x u lo hi Q C rx P => by
  have s1 := C.sees rx
  unfold slG at P
  split at P
  · rename_i cs e
    rw [e] at s1
    split at P
    · rename_i hl
      obtain ⟨rfl, o⟩ := s1.str
      refine .inl (.inl ⟨_, rfl, by show (SX.S cs).length ≤ sizeLine; rw [SX.S_len]; exact lim_le hl, ?_⟩)
      have e2 : cutS (⟨cs.toArray⟩ : Str) lo hi = ⟨(cutD cs lo hi).toArray⟩ := by simp [cutS, cutD, Str.length]
      rw [e2]
      exact Post.now (C := Rep K) P C (rf_str (okS_cut o lo hi))
    · exact P.elim
  · rename_i ds e
    rw [e] at s1
    obtain ⟨a, vs, rfl, h1, r1⟩ := s1
    exact .inl (.inr ⟨a, vs, rfl, SqL.of h1, fun l hl => Post.laidL P C (r1.cut lo hi) hl⟩)
  · rename_i ds e
    rw [e] at s1
    obtain ⟨a, vs, rfl, h1, r1⟩ := s1.tup
    refine .inr ⟨a, vs, rfl, Ex.t C.sub h1.sq, fun hw => ?_, fun _ l hl => Post.laidT P C (r1.cut lo hi) hl⟩
    have e2 : cutD ds lo hi = ds := by
      unfold cutD
      rw [← r1.length, hw.1, hw.2, List.drop_zero, Nat.sub_zero, r1.length, List.take_length]
    rw [e2] at P
    exact Post.now (C := Rep K) P C (Rep.of (by unfold RepF; exact ⟨a, vs, rfl, h1, r1⟩))
  · exact P.elim
theorem je_sl {r : V → Option Int → Option Int → Hp → VK → Prop} {g : Sto → D → Option Int → Option Int → O D} {lo hi : Option Expr} {fl fu : PF} (hr : SlR X r) (ok : OkSl X.K r g) (he : JE X cl W a fa) (hl : JO X cl W lo fl) (hu : JO X cl W hi fu) : JE X cl W (.Subscript a (.Slice lo hi none p2) pos) (slF g fa fl fu) := (pe_slice hr he hl hu).imp fun σ H Q h => by
  obtain ⟨M, ι, δ, s, C, S, P⟩ := h
  refine ⟨M, ι, δ, s, C, S, Post.mono (Post.bind (Rep X.K) P) fun x H1 m => ?_⟩
  obtain ⟨M1, ι1, d, s1, t1, C1, r1, P1⟩ := m.ex
  refine ⟨M1, ι1, δ, s1, C1, S.step t1, Post.mono (Post.bind CO P1) fun l H2 m => ?_⟩
  obtain ⟨M2, ι2, _, s2, t2, C2, rfl, P2⟩ := m.ex
  refine ⟨M2, ι2, δ, s2, C2, (S.step t1).step t2, Post.mono (Post.bind CO P2) fun l' H3 m => ?_⟩
  obtain ⟨M3, ι3, _, s3, t3, C3, rfl, P3⟩ := m.ex
  exact ok _ M3 ι3 s3 H3 d x _ _ Q C3 ((r1.step t2).step t3) P3
/-! ### (*xs, y) -/
def starF (fa : EF) (fr : AF) : AF := fun δ s => (fa δ s).bind fun x s1 => match view s1 x with
  | .lst ds => (fr δ s1).bind fun xs s2 => .val (ds ++ xs) s2
  | .tup ds => (fr δ s1).bind fun xs s2 => .val (ds ++ xs) s2
  | _ => .stuck
theorem ja_star {es : List Expr} {p : Pos} (he : JE X cl W e fa) (hr : JA X cl W es fr) (hs : starEach (.Starred e p :: es) X.env = (true, eval e X.env) :: starEach es X.env := by rfl) : JA X cl W (.Starred e p :: es) (starF fa fr) := (StX.pa_star he hr hs).imp fun σ H Q h => by
  obtain ⟨M, ι, δ, s, C, S, P⟩ := h
  refine ⟨M, ι, δ, s, C, S, Post.mono (Post.bind (Rep X.K) P) fun u H1 m => ?_⟩
  obtain ⟨M1, ι1, d, s1, t1, C1, r1, P1⟩ := m.ex
  have sd := C1.sees r1
  have fin : ∀ {ds : List D} {vs : List V}, RepL X.K M1 ds vs → Post X.K (Reps X.K) (wx cl W σ) M1 ι1 H1 ((fr δ s1).bind fun xs s2 => .val (ds ++ xs) s2) Q → rdA X.K cl W fr σ H1 fun ys H2 => Q (vs ++ ys) H2 := fun r P2 => by
    refine ⟨M1, ι1, δ, s1, C1, S.step t1, Post.mono (Post.bind (Reps X.K) P2) fun ys H2 m => ?_⟩
    obtain ⟨M2, ι2, xs, s2, t2, C2, r2, P3⟩ := m.ex
    exact Post.now (C := Reps X.K) P3 C2 ((Reps.of (r.step t2)).append r2)
  split at P1
  · rename_i ds e1
    rw [e1] at sd
    obtain ⟨a, vs, rfl, h1, r2⟩ := sd
    exact ⟨a, vs, rfl, .inr (SqL.of h1), fin r2 P1⟩
  · rename_i ds e1
    rw [e1] at sd
    obtain ⟨a, vs, rfl, h1, r2⟩ := sd.tup
    exact ⟨a, vs, rfl, .inl (Ex.t C1.sub h1.sq), fin r2 P1⟩
  · exact P1.elim
/-! ### constants of the module -/
theorem je_globI {x : Str} {i : Int} {pos : Pos} (hm : ∃ t, X.mg x = some (.int i t)) (hg : Gl X x) (hd : (x == ("__debug__" : Str)) = false := by decide) : JE X cl W (.Name x pos) (cF (.int i)) := by
  obtain ⟨t, hm⟩ := hm
  exact je_glob hg hm (show RelV (.int i) (.int i t) from ⟨t, rfl⟩) (fun _ _ => rf_int) hd
end
theorem un65 {k : Nat} {A : Around} (r : Room k A) : A.units + 65 < cLine := by have := r.un; omega
end Fl
set_option Elab.async false
set_option linter.all false
set_option maxRecDepth 100000
namespace Fl
open PySem PySem.Spec PyProof.Rows L2
/-! ### zip of three -/
def ItZ3 (K : PySem.W.Frag) (k1 k2 k3 : Kd) (xs ys zs : List V) : It :=
  ⟨fun i H => k1.src K H xs ∧ k2.src K H ys ∧ k3.src K H zs ∧ i < xs.length ∧ i < ys.length ∧ i < zs.length, fun i H v H' => ∃ T x y u, v = .ref T ∧ H T = none ∧ H' = upd H T (.tup [x, y, u]) ∧ xs[i]? = some x ∧ ys[i]? = some y ∧ zs[i]? = some u,
    fun i H => k1.src K H xs ∧ k2.src K H ys ∧ k3.src K H zs ∧ i = min (min xs.length ys.length) zs.length⟩
theorem turn_zipK3 {P : Program} {w : World} {K : PySem.W.Frag} {elts : List Expr} {kk : Nat} {tpos : Pos} {k1 k2 k3 : Kd} {xs ys zs : List V} {z TI TO i1 i2 i3 : Addr} (D : ZipSep3 z TI TO i1 i2 i3 (i1 :: k1.ads) (i2 :: k2.ads) (i3 :: k3.ads)) (n1 : ∀ a ∈ k1.ads, a ≠ i1) (n2 : ∀ a ∈ k2.ads, a ≠ i2) (n3 : ∀ a ∈ k3.ads, a ≠ i3) :
    Turn P w K (.Tuple elts kk tpos) (ItZ3 K k1 k2 k3 xs ys zs) [z, TI, TO, i1, i2, i3] z (fun i h => IsZip h z TI TO .none ∧ IsTupOf3 h TI (.ref i1) (.ref i2) (.ref i3) ∧ (∃ x y u, IsTupOf3 h TO x y u) ∧ k1.at i1 i h ∧ k2.at i2 i h ∧ k3.at i3 i h) where
  mem := by simp
  obj := fun i h st c hc => by
    obtain ⟨hz, hTI, ⟨x, y, u, hTO⟩, h1, h2, h3⟩ := st
    have e' : c = z ∨ c = TI ∨ c = TO ∨ c = i1 ∨ c = i2 ∨ c = i3 := by simpa using hc
    rcases e' with q | q | q | q | q | q
    · rw [q]; exact ⟨_, hz, fun v q => nomatch q⟩
    · rw [q]; exact ⟨_, hTI, fun v q => nomatch q⟩
    · rw [q]; exact ⟨_, hTO, fun v q => nomatch q⟩
    · rw [q]; exact Kd.ob h1
    · rw [q]; exact Kd.ob h2
    · rw [q]; exact Kd.ob h3
  keep := fun i h h' st k => by
    obtain ⟨hz, hTI, ⟨x, y, u, hTO⟩, h1, h2, h3⟩ := st
    exact ⟨k z (by simp) _ hz, k TI (by simp) _ hTI, ⟨x, y, u, k TO (by simp) _ hTO⟩, Kd.keep h1 fun o q => k i1 (by simp) o q, Kd.keep h2 fun o q => k i2 (by simp) o q, Kd.keep h3 fun o q => k i3 (by simp) o q⟩
  item := by
    intro X hP hw hK hc i pins s σ H E I hf st hg
    subst hP hw hK
    obtain ⟨hz, hTI, hTO, h1, h2, h3⟩ := st
    obtain ⟨q1, q2, q3, l1, l2, l3⟩ := hg
    have hh : X.A.in1.handled = none := by simp [I.ok.hd hc]
    obtain ⟨P1, T1, D1, t1, a1, b1⟩ := Kd.draws (A := X.A.in1) I q1 h1 n1 hh
    obtain ⟨P2, T2, D2, t2, a2, b2⟩ := Kd.draws (A := X.A.in1) I q2 h2 n2 hh
    obtain ⟨P3, T3, D3, t3, a3, b3⟩ := Kd.draws (A := X.A.in1) I q3 h3 n3 hh
    have W := GoesN.zip3 (elts := elts) (x1 := kk) (pos := tpos) D D1 D2 D3
    refine W.goes i s (fun u s2 => ∃ x H', Inv X pins σ H' s2 ∧ RelV x u ∧ (ItZ3 X.K k1 k2 k3 xs ys zs).yld i H x H' ∧ (IsZip s2.heap z TI TO .none ∧ IsTupOf3 s2.heap TI (.ref i1) (.ref i2) (.ref i3) ∧ (∃ x y u, IsTupOf3 s2.heap TO x y u) ∧ k1.at i1 (i + 1) s2.heap ∧ k2.at i2 (i + 1) s2.heap ∧ k3.at i3 (i + 1) s2.heap) ∧ ∀ b ∈ [z, TI, TO, i1, i2, i3], H' b = none) E (by omega) ⟨hz, hTI, hTO, t1, t2, t3⟩ fun v h' tk hY st' hk _ => ?_
    obtain ⟨T, x, y, u, rfl, hT, p1, p2, p3, hTup⟩ := hY
    obtain ⟨x', e1, r1⟩ := b1 _ _ p1
    obtain ⟨y', e2, r2⟩ := b2 _ _ p2
    obtain ⟨u', e3, r3⟩ := b3 _ _ p3
    have new : ObjOk X.prog X.w (upd H T (.tup [x', y', u'])) h' T (.tup [x', y', u']) :=
      ⟨by show 3 ≤ sizeLine; decide, [x, y, u], .cons r1 (.cons r2 (.cons r3 .nil)), by obtain ⟨o, h1, h2, n, h3⟩ := hTup; exact ⟨o, h1, h2, n, h3⟩⟩
    have I1 : Inv X pins σ (upd H T (.tup [x', y', u'])) { s with heap := h', toks := tk } :=
      I.turnedNew (ch := [z, TI, TO, i1, i2, i3]) (fun c o hb q => hk c o (fun q' => hb (by simp at q' ⊢; rcases q' with q | q | q | q | q <;> simp [q])) q) hf hT new
    refine ⟨.ref T, _, I1, rfl, ⟨T, x', y', u', rfl, I.hok.fresh hT, rfl, e1, e2, e3⟩, ⟨st'.1, st'.2.1, st'.2.2.1, a1 _ _ st'.2.2.2.1, a2 _ _ st'.2.2.2.2.1, a3 _ _ st'.2.2.2.2.2⟩, fun c hcm => ?_⟩
    have hlt : c < s.heap.objs.size := by
      have e' : c = z ∨ c = TI ∨ c = TO ∨ c = i1 ∨ c = i2 ∨ c = i3 := by simpa using hcm
      obtain ⟨u1, u2, u3, hTO⟩ := hTO
      rcases e' with q | q | q | q | q | q
      · rw [q]; exact Heap.lt_size hz
      · rw [q]; exact Heap.lt_size hTI
      · rw [q]; exact Heap.lt_size hTO
      · rw [q]; obtain ⟨_, e, _⟩ := Kd.ob h1; exact Heap.lt_size e
      · rw [q]; obtain ⟨_, e, _⟩ := Kd.ob h2; exact Heap.lt_size e
      · rw [q]; obtain ⟨_, e, _⟩ := Kd.ob h3; exact Heap.lt_size e
    rw [upd_ne (Nat.ne_of_lt (Nat.lt_of_lt_of_le hlt hT))]
    exact (hf c hcm).1
  done := by
    intro X hP hw hK hc i pins s σ H E I hf st hg
    subst hP hw hK
    obtain ⟨hz, hTI, hTO, h1, h2, h3⟩ := st
    obtain ⟨q1, q2, q3, l⟩ := hg
    subst l
    have hh : X.A.in1.handled = none := by simp [I.ok.hd hc]
    obtain ⟨P1, T1, D1, t1, a1, b1⟩ := Kd.draws (A := X.A.in1) I q1 h1 n1 hh
    obtain ⟨P2, T2, D2, t2, a2, b2⟩ := Kd.draws (A := X.A.in1) I q2 h2 n2 hh
    obtain ⟨P3, T3, D3, t3, a3, b3⟩ := Kd.draws (A := X.A.in1) I q3 h3 n3 hh
    have W := GoesN.zip3 (elts := elts) (x1 := kk) (pos := tpos) D D1 D2 D3
    exact W.stops s (fun s2 => Inv X pins σ H s2) E ⟨hz, hTI, hTO, t1, t2, t3⟩ fun h' tk hk _ => I.turnedL (ch := [z, TI, TO, i1, i2, i3]) (fun c o hb q => hk c o (fun q' => hb (by simp at q' ⊢; rcases q' with q | q | q | q | q <;> simp [q])) q) hf
  self := fun A i s Q E st h => wpAny_pyIter_zip st.1 h
def iZipK3 (K : PySem.W.Frag) (ta : TA) : TI := fun σ H R => ta σ H fun vs H1 => ∃ (c1 c2 c3 : Cd) (xs ys zs : List V), vs = [c1.v, c2.v, c3.v] ∧ (∀ t, (c1.kd t).src K H1 xs) ∧ (∀ t, (c2.kd t).src K H1 ys) ∧ (∀ t, (c3.kd t).src K H1 zs) ∧ ∀ t1 t2 t3, R (ItZ3 K (c1.kd t1) (c2.kd t2) (c3.kd t3) xs ys zs) H1
theorem pi_zipK3 {X : Cx} {e e2 e3 : Expr} {ta : TA} {p pos tpos : Pos} {elts : List Expr} {kk : Nat} (hg : Gl X "zip") (hm : X.mg "zip" = none) (ha : PA X [e, e2, e3] ta)
    (hs : starEach [e, e2, e3] X.env = (false, eval e X.env) :: starEach [e2, e3] X.env := by rfl) (hpl : (backTo pos (starEach [e2, e3] X.env)).any (·.1) = false := by rfl) :
    PI X (.Tuple elts kk tpos) (.Call (.Name "zip" p) [e, e2, e3] [] pos) (iZipK3 X.K ta) := by
  refine ⟨fun pins s σ H R I h => ?_⟩
  refine Call_ (ld_blt I hg hm PyProof.Rows.boot_zip (PyProof.Rows.callWith_type1 (thn (ha.run pos pins s σ H _ I h) fun us s1 ⟨vs, H1, I1, r1, q1⟩ => ?_) hs hpl))
  obtain ⟨c1, c2, c3, xs, ys, zs, ex, k1, k2, k3, q⟩ := q1
  subst ex
  cases r1 with
  | cons r rr =>
    cases rr with
    | cons r' rr =>
      cases rr with
      | cons r'' rr =>
        cases rr
        obtain ⟨t1, o1, B1, _, b1, p1, a1, l1⟩ := Cd.begins I1 r k1
        obtain ⟨t2, o2, B2, _, b2, p2, a2, l2⟩ := Cd.begins I1 r' k2
        obtain ⟨t3, o3, B3, _, b3, p3, a3, l3⟩ := Cd.begins I1 r'' k3
        refine zip_begins3 b1 b2 b3 p1 p2 p3 fun h' hz hTI hTO g1 g2 g3 hsz hk => wpAny_pyIter_zip hz ?_
        have I2 : Inv X pins σ H1 { s1 with heap := h' } := I1.kept (t' := s1.toks) hk
        have fresh6 : ∀ c, c ∈ [s1.heap.objs.size + 5, s1.heap.objs.size + 3, s1.heap.objs.size + 4, s1.heap.objs.size, s1.heap.objs.size + 1, s1.heap.objs.size + 2] → FpOk X pins H1 c := fun c hcm => by
          have e' : c = s1.heap.objs.size + 5 ∨ c = s1.heap.objs.size + 3 ∨ c = s1.heap.objs.size + 4 ∨ c = s1.heap.objs.size ∨ c = s1.heap.objs.size + 1 ∨ c = s1.heap.objs.size + 2 := by simpa using hcm
          have hle : s1.heap.objs.size ≤ c := by
            rcases e' with z | z | z | z | z | z
            · rw [z]; exact Nat.le_add_right _ _
            · rw [z]; exact Nat.le_add_right _ _
            · rw [z]; exact Nat.le_add_right _ _
            · rw [z]; exact Nat.le_refl _
            · rw [z]; exact Nat.le_add_right _ _
            · rw [z]; exact Nat.le_add_right _ _
          exact I1.fpOk hle (I1.hok.fresh hle)
        refine ⟨s1.heap.objs.size + 5, [s1.heap.objs.size + 5, s1.heap.objs.size + 3, s1.heap.objs.size + 4, s1.heap.objs.size, s1.heap.objs.size + 1, s1.heap.objs.size + 2], _, _, H1, rfl, I2, turn_zipK3 (zip_sep3 l1 l2 l3) (fun a ha => Nat.ne_of_lt (l1 a ha)) (fun a ha => Nat.ne_of_lt (Nat.lt_succ_of_lt (l2 a ha))) (fun a ha => Nat.ne_of_lt (Nat.lt_succ_of_lt (Nat.lt_succ_of_lt (l3 a ha)))), ⟨hz, hTI, ⟨_, _, _, hTO⟩, a1 _ _ g1, a2 _ _ g2, a3 _ _ g3⟩, fresh6, q t1 t2 t3⟩
def pairs3 (xs ys zs : List D) : List D := List.zipWith (fun p c => .tup [p.1, p.2, c]) (List.zip xs ys) zs
theorem itOk_zip3 {K : PySem.W.Frag} {M : Hp} {c1 c2 c3 : Cd} {t1 t2 t3 : Tok} {xs ys zs : List V} {ds es fs : List D} (r1 : RepL K M ds xs) (r2 : RepL K M es ys) (r3 : RepL K M fs zs) (s1 : ∀ H, Ex M H → ∀ t, (c1.kd t).src K H xs) (s2 : ∀ H, Ex M H → ∀ t, (c2.kd t).src K H ys) (s3 : ∀ H, Ex M H → ∀ t, (c3.kd t).src K H zs) : ItOk K M (ItZ3 K (c1.kd t1) (c2.kd t2) (c3.kd t3) xs ys zs) (pairs3 ds es fs) := by
  intro i M1 ι1 s H1 e C
  have e1 : Ex M H1 := Ex.trans e C.sub
  have hl : (pairs3 ds es fs).length = min (min xs.length ys.length) zs.length := by rw [r1.length, r2.length, r3.length]; simp [pairs3]
  constructor
  · intro d hd
    have hi : i < min (min xs.length ys.length) zs.length := by rw [← hl]; exact (List.getElem?_eq_some_iff.mp hd).1
    refine ⟨⟨s1 _ e1 _, s2 _ e1 _, s3 _ e1 _, by omega, by omega, by omega⟩, fun v' H2 y => ?_⟩
    obtain ⟨T, x, y, u, rfl, hT, rfl, hx, hy, hu⟩ := y
    obtain ⟨dx, h1, h2⟩ := r1.getV hx
    obtain ⟨dy, h3, h4⟩ := r2.getV hy
    obtain ⟨du, h5, h6⟩ := r3.getV hu
    have hd' : d = .tup [dx, dy, du] := by
      unfold pairs3 at hd
      rw [List.getElem?_zipWith, (List.getElem?_zip_eq_some (z := (dx, dy))).mpr ⟨h1, h3⟩, h5] at hd
      exact (Option.some.inj hd).symm
    subst hd'
    obtain ⟨C2, t2⟩ := C.laid (o := .tup [x, y, u]) hT
    exact ⟨_, t2, C2, Rep.of (by unfold RepF; exact ⟨T, _, rfl, .inl upd_same, .cons ((h2.mono e).mono t2.mm) (.cons ((h4.mono e).mono t2.mm) (.cons ((h6.mono e).mono t2.mm) .nil))⟩)⟩
  · intro hi
    exact ⟨s1 _ e1 _, s2 _ e1 _, s3 _ e1 _, by rw [hi, hl]⟩
def zip3F (fr : AF) : AF := fun δ s => (fr δ s).bind fun ds s1 => match ds with
  | [x, y, z] => match srcD x, srcD y, srcD z with
    | some xs, some ys, some zs => .val (pairs3 xs ys zs) s1
    | _, _, _ => .stuck
  | _ => .stuck
section
variable {X : Cx} {cl : Nat → Value} {W : WX} {e a b c : Expr} {fr : AF} {pos : Pos}
theorem ji_zip3 {p tpos : Pos} {elts : List Expr} {kk : Nat} (hg : Gl X "zip") (hm : X.mg "zip" = none) (ha : JA X cl W [a, b, c] fr) (hs : starEach [a, b, c] X.env = (false, eval a X.env) :: starEach [b, c] X.env := by rfl) (hpl : (backTo pos (starEach [b, c] X.env)).any (·.1) = false := by rfl) :
    JI X cl W (.Tuple elts kk tpos) (.Call (.Name "zip" p) [a, b, c] [] pos) (zip3F fr) := (pi_zipK3 hg hm ha hs hpl).imp fun σ H R h => by
  obtain ⟨M, ι, δ, s, C, S, P⟩ := h
  refine ⟨M, ι, δ, s, C, S, Post.mono (Post.bind (Reps X.K) P) fun u H1 m => ?_⟩
  obtain ⟨M1, ι1, x, s1, t1, C1, r1, P1⟩ := m.ex
  split at P1
  · split at P1
    · rename_i h1 h2 h3
      obtain ⟨u, w, v, rfl, r2, r3, r4⟩ := r1.three
      obtain ⟨c1, vs, rfl, q1, z1⟩ := src_ok r2 h1
      obtain ⟨c2, us, rfl, q2, z2⟩ := src_ok r3 h2
      obtain ⟨c3, ws, rfl, q3, z3⟩ := src_ok r4 h3
      exact ⟨c1, c2, c3, vs, us, ws, rfl, z1 _ C1.sub, z2 _ C1.sub, z3 _ C1.sub, fun t1 t2 t3 => Post.now (C := CI X.K) P1 C1 (itOk_zip3 q1 q2 q3 z1 z2 z3)⟩
    · exact P1.elim
  · exact P1.elim
end
end Fl
set_option Elab.async false
set_option linter.all false
set_option maxRecDepth 100000
namespace Fl
open PySem PySem.Spec PyProof.Rows L2
/-! ### loops over a list of one's own that stays as it is -/
open Classical in
noncomputable def loopG (k : Nat) (xs0 : List D) (g : GF) (body : SF) : List D → Sl → Sto → OS
  | [], δ, s => if s[k]? = some (.lst xs0) then .nx δ s else .stuck
  | x :: xs, δ, s => if s[k]? = some (.lst xs0) then (noX (g x δ s)).go δ fun δ1 s1 => match body δ1 s1 with
      | .nx δ2 s2 => loopG k xs0 g body xs δ2 s2
      | .ct δ2 s2 => loopG k xs0 g body xs δ2 s2
      | .bk δ2 s2 => .nx δ2 s2
      | o => o
    else .stuck
noncomputable def forOS (fa : EF) (g : GF) (body : SF) : SF := fun δ s => (fa δ s).go δ fun d s1 => match d with
  | .ob k => match s1[k]? with
    | some (.lst xs) => loopG k xs g body xs δ s1
    | _ => .stuck
  | _ => .stuck
section
variable {K : PySem.W.Frag} {cl : Nat → Value} {W : WX}
theorem own_it {M : Hp} {ι : List Addr} {s : Sto} {H : Hp} {k : Nat} {a : Addr} {xs : List D} (C : Conc K M ι s H) (hk : ι[k]? = some a) (e : s[k]? = some (.lst xs)) (i : Nat) :
    (∀ d, xs[i]? = some d → (Itl K a).go i H ∧ ∀ v H2, (Itl K a).yld i H v H2 → H2 = H ∧ Rep K M ι d v) ∧ (xs.length ≤ i → (Itl K a).stop i H) := by
  obtain ⟨_, vs, h1, r⟩ := C.obs k a _ hk e
  constructor
  · intro d hd
    obtain ⟨v, h2, h3⟩ := r.get hd
    refine ⟨⟨vs, v, SqL.of h1, h2⟩, fun v' H2 y => ?_⟩
    obtain ⟨rfl, y⟩ := y
    have := y vs (SqL.of h1)
    rw [h2] at this; cases this
    exact ⟨rfl, h3⟩
  · intro hi
    exact ⟨vs, SqL.of h1, by rw [r.length]; exact hi⟩
theorem rd_forO {fa : EF} {g : GF} {body : SF} (D : Ends) (σ : L2.St) (H : Hp) (h : rdS K cl W (forOS fa g body) D σ H) : tFor (iList K (rdE K cl W fa)) (rdG K g) (rdS K cl W body) D σ H := by
  obtain ⟨M, ι, δ, s, C, S, P⟩ := rd_go (Rep K) h
  refine ⟨M, ι, δ, s, C, S, Post.mono P fun u H1 h => ?_⟩
  obtain ⟨M1, ι1, δ1, s1, d, C1, S1, r1, P1⟩ := h
  split at P1
  · rename_i k
    split at P1
    · rename_i xs e0
      obtain ⟨a, rfl, hk⟩ := r1
      obtain ⟨_, vs0, hv0, _⟩ := C1.obs k a _ hk e0
      refine ⟨a, rfl, ⟨vs0, SqL.of hv0⟩, fun i m σ H => m = xs.length - i ∧ i ≤ xs.length ∧ ∃ M' ι' δ' s', Ex M1 M' ∧ ι'[k]? = some a ∧ Conc K M' ι' s' H ∧ RepS K M' ι' δ' σ ∧ PostS K cl W D M' ι' H (loopG k xs g body (xs.drop i) δ' s'), ⟨xs.length, by simp, Nat.zero_le _, M1, ι1, δ1, s1, Ex.refl _, hk, C1, S1, P1⟩, ?_⟩
      rintro i m σ H ⟨rfl, hi, M', ι', δ', s', e', hk', C', S', P'⟩
      by_cases hlt : i < xs.length
      · have hx : xs[i]? = some xs[i] := List.getElem?_eq_getElem hlt
        rw [List.drop_eq_getElem_cons hlt] at P'
        unfold loopG at P'
        by_cases hg : s'[k]? = some (.lst xs)
        · rw [if_pos hg] at P'
          obtain ⟨go, yl⟩ := (own_it C' hk' hg i).1 _ hx
          refine .inr ⟨go, fun σ H => ∃ M2 ι2 δ2 s2, Ex M1 M2 ∧ ι2[k]? = some a ∧ Conc K M2 ι2 s2 H ∧ RepS K M2 ι2 δ2 σ ∧ PostS K cl W D M2 ι2 H (loopG k xs g body (xs.drop (i + 1)) δ2 s2), fun σ' H' w => ⟨xs.length - (i + 1), by omega, rfl, hlt, w⟩, fun v H2 hy => ?_⟩
          obtain ⟨rfl, r2⟩ := yl v H2 hy
          refine ⟨M', ι', δ', s', xs[i], C', S', r2, Post.noX (Post.mono (PostS.tg P' noX_ne) fun σ3 H3 h => ?_)⟩
          obtain ⟨M3, ι3, δ3, s3, t3, C3, S3, P3⟩ := h
          refine ⟨M3, ι3, δ3, s3, C3, S3, ?_⟩
          have e3 : Ex M1 M3 := Ex.trans e' t3.mm
          have k3 : ι3[k]? = some a := t3.ii _ _ hk'
          revert P3
          cases body δ3 s3 with
          | stuck => exact fun P3 => P3
          | nx δ4 s4 => exact fun P3 M4 ι4 H4 σ4 t4 C4 S4 => ⟨M4, ι4, δ4, s4, Ex.trans e3 t4.mm, t4.ii _ _ k3, C4, S4, PostS.step P3 t4⟩
          | ct δ4 s4 => exact fun P3 M4 ι4 H4 σ4 t4 C4 S4 => ⟨M4, ι4, δ4, s4, Ex.trans e3 t4.mm, t4.ii _ _ k3, C4, S4, PostS.step P3 t4⟩
          | bk δ4 s4 => exact fun P3 => P3
          | rt d s4 => exact fun P3 => P3
          | exc c δ4 s4 => exact fun P3 => P3
        · rw [if_neg hg] at P'; exact P'.elim
      · have e : i = xs.length := by omega
        rw [e, List.drop_length] at P'
        unfold loopG at P'
        by_cases hg : s'[k]? = some (.lst xs)
        · rw [if_pos hg] at P'
          refine .inl ⟨(own_it C' hk' hg i).2 (by omega), ?_⟩
          exact P' M' ι' H σ Step.refl C' S'
        · rw [if_neg hg] at P'; exact P'.elim
    · exact P1.elim
  · exact P1.elim
end
section
variable {X : Cx} {cl : Nat → Value} {W : WX} {e : Expr} {fa : EF} {ff : SF} {pos : Pos}
theorem js_forO {tg iter : Expr} {body : List Stmt} {g : GF} (hp : PassesOwn (model X.prog X.w) X.A X.env X.xe) (hc : X.calm = true) (hi : JE X cl W iter fa) (hg : JG X tg g) (hb : JSs X cl W body ff)
    (hs : ∀ x, foldedSetIterable iter X.env x = pure x := by intro _; rfl) : JS X cl W (.For tg iter body [] pos) (forOS fa g ff) := (ps_for hp hc (pi_list hi) hg hb hs).imp fun D σ H h => rd_forO D σ H h
end
/-! ### list comprehensions over one -/
open Classical in
noncomputable def loopCG (k : Nat) (xs0 : List D) (g : GF) (t : BF) (e : EF) (δ : Sl) : List D → List D → Sto → O (List D)
  | [], acc, s => if s[k]? = some (.lst xs0) then .val acc s else .stuck
  | x :: xs, acc, s => if s[k]? = some (.lst xs0) then (noX (g x δ s)).bind fun δ1 s1 => (quiet (t δ1 s1)).bind fun b s2 =>
      if b = true then (quiet (e δ1 s2)).bind fun d s3 => if flat d = true ∧ acc.length < 16000000 then loopCG k xs0 g t e δ xs (acc ++ [d]) s3 else .stuck
      else loopCG k xs0 g t e δ xs acc s2
    else .stuck
noncomputable def compOw (fa : EF) (vs : List Nat) (g : GF) (t : BF) (e : EF) : EF := fun δ s => (fa δ s).bind fun d s1 => match d with
  | .ob k => match s1[k]? with
    | some (.lst xs) => (loopCG k xs g t e (wipeD δ vs) xs [] s1).bind fun ds s2 => .val (.lst ds) s2
    | _ => .stuck
  | _ => .stuck
theorem rd_lcG {K : PySem.W.Frag} {cl : Nat → Value} {W : WX} {fa : EF} {vs : List Nat} {g : GF} {t : BF} {f : EF} (σ : L2.St) (H : Hp) (Q : VK) (h : rdE K cl W (compOw fa vs g t f) σ H Q) : tLc (iList K (rdE K cl W fa)) (rdGC K vs g) (rdT K cl W0 t) (rdE K cl W0 f) vs σ H Q := by
  obtain ⟨M, ι, δ, s, C, S, P⟩ := h
  refine ⟨M, ι, δ, s, C, S, Post.mono (Post.bind (Rep K) P) fun u H1 m => ?_⟩
  obtain ⟨M1, ι1, d, s1, t1, C1, r1, P1⟩ := m.ex
  split at P1
  · rename_i k
    split at P1
    · rename_i xs e0
      obtain ⟨a, rfl, hk⟩ := r1
      obtain ⟨_, vs0, hv0, _⟩ := C1.obs k a _ hk e0
      have S1 := S.step t1
      refine ⟨a, rfl, ⟨vs0, SqL.of hv0⟩, fun p hp => ⟨fun i m H => m = xs.length - i ∧ i ≤ xs.length ∧ ∃ M' ι' s' acc, Way K M1 ι1 H1 p acc M' ι' s' H ∧ (∀ d ∈ acc, flat d = true) ∧ Post K (Rep K) (wx cl W σ) M1 ι1 H1 ((loopCG k xs g t f (wipeD δ vs) (xs.drop i) acc s').bind fun ds s2 => .val (.lst ds) s2) Q, ⟨xs.length, by simp, Nat.zero_le _, M1, ι1, s1, [], Way.start C1 hp, (fun _ z => nomatch z), P1⟩, ?_⟩⟩
      rintro i m H ⟨rfl, hi, M', ι', s', acc, w, fl, P'⟩
      have hk' : ι'[k]? = some a := w.st.ii _ _ hk
      by_cases hlt : i < xs.length
      · have hx : xs[i]? = some xs[i] := List.getElem?_eq_getElem hlt
        rw [List.drop_eq_getElem_cons hlt] at P'
        unfold loopCG at P'
        by_cases hg : s'[k]? = some (.lst xs)
        · rw [if_pos hg] at P'
          obtain ⟨go, yl⟩ := (own_it w.C hk' hg i).1 _ hx
          refine .inr ⟨go, fun H => ∃ M2 ι2 s2 acc2, Way K M1 ι1 H1 p acc2 M2 ι2 s2 H ∧ (∀ d ∈ acc2, flat d = true) ∧ Post K (Rep K) (wx cl W σ) M1 ι1 H1 ((loopCG k xs g t f (wipeD δ vs) (xs.drop (i + 1)) acc2 s2).bind fun ds s2 => .val (.lst ds) s2) Q, fun H' z => ⟨xs.length - (i + 1), by omega, rfl, hlt, z⟩, fun v H2 hy => ?_⟩
          obtain ⟨rfl, r2⟩ := yl v H2 hy
          refine ⟨M', ι', wipeD δ vs, s', xs[i], w.C, (S1.step w.st).wipe vs, r2, ?_⟩
          revert P'
          cases g xs[i] (wipeD δ vs) s' with
          | stuck => exact fun P' => P'
          | exc c s'' => exact fun P' => P'.elim
          | val δ3 s3 =>
            intro P' M3 ι3 H3 σ3 t3 C3 S3 hw
            have w3 := w.go t3 C3
            refine ⟨hw.trans wipe_wipe, M3, ι3, δ3, s3, C3, S3, ?_⟩
            have P3 : Post K (Rep K) (wx cl W σ) M1 ι1 H1 (((quiet (t δ3 s3)).bind fun b s2 => if b = true then (quiet (f δ3 s2)).bind fun d s3 => if flat d = true ∧ acc.length < 16000000 then loopCG k xs g t f (wipeD δ vs) (xs.drop (i + 1)) (acc ++ [d]) s3 else .stuck else loopCG k xs g t f (wipeD δ vs) (xs.drop (i + 1)) acc s2).bind fun ds s2 => .val (.lst ds) s2) Q := P'
            revert P3
            cases t δ3 s3 with
            | stuck => exact fun P3 => P3
            | exc c s'' => exact fun P3 => P3.elim
            | val b s4 =>
              intro P3 M4 ι4 H4 b' t4 C4 hb
              subst hb
              have w4 := w3.go t4 C4
              cases b' with
              | false => exact iteF ⟨M4, ι4, s4, acc, w4, fl, P3⟩
              | true =>
                refine iteT ⟨M4, ι4, δ3, s4, C4, S3.step t4, ?_⟩
                have P4 : Post K (Rep K) (wx cl W σ) M1 ι1 H1 (((quiet (f δ3 s4)).bind fun d s3 => if flat d = true ∧ acc.length < 16000000 then loopCG k xs g t f (wipeD δ vs) (xs.drop (i + 1)) (acc ++ [d]) s3 else .stuck).bind fun ds s2 => .val (.lst ds) s2) Q := P3
                revert P4
                cases f δ3 s4 with
                | stuck => exact fun P4 => P4
                | exc c s'' => exact fun P4 => P4.elim
                | val d s5 =>
                  intro P4 M5 ι5 H5 y t5 C5 r5
                  have w5 := w4.go t5 C5
                  have P5 : Post K (Rep K) (wx cl W σ) M1 ι1 H1 ((if flat d = true ∧ acc.length < 16000000 then loopCG k xs g t f (wipeD δ vs) (xs.drop (i + 1)) (acc ++ [d]) s5 else .stuck).bind fun ds s2 => .val (.lst ds) s2) Q := P4
                  by_cases hc : flat d = true ∧ acc.length < 16000000
                  · rw [if_pos hc] at P5
                    obtain ⟨us, h1, h2⟩ := w5.at_
                    exact ⟨us, h1, by rw [h2.length]; exact Nat.lt_of_lt_of_le hc.2 (by decide), M5, ι5, s5, acc ++ [d], w5.put h1 h2 r5, (fun d' z => (List.mem_append.mp z).elim (fl d') fun z => by rw [List.mem_singleton.mp z]; exact hc.1), P5⟩
                  · rw [if_neg hc] at P5
                    exact P5.elim
        · rw [if_neg hg] at P'; exact P'.elim
      · have e : i = xs.length := by omega
        rw [e, List.drop_length] at P'
        unfold loopCG at P'
        by_cases hg : s'[k]? = some (.lst xs)
        · rw [if_pos hg] at P'
          exact .inl ⟨(own_it w.C hk' hg i).2 (by omega), Way.froz w fl P'⟩
        · rw [if_neg hg] at P'; exact P'.elim
    · exact P1.elim
  · exact P1.elim
section
variable {X : Cx} {cl : Nat → Value} {W : WX} {fa : EF} {pos : Pos}
theorem je_lcG {elt tg iter : Expr} {ifs : List Expr} {scope : Scope} {own : List (Str × Nat)} {vs : List Nat} {g : GF} {t : BF} {f : EF} (hc : X.calm = true) (hN : X.N.Nodup) (hi : JE X cl W iter fa) (ok : BlkOk X.N X.env.scope scope own)
    (hg : ∀ (s : Shared) (H : Hp) (C : Addr) (cls : List (Str × Addr)) (fp : List Addr), JC (X.blk s H scope (compEnvC scope cls C X.env) fp) vs tg g) (ht : ∀ (s : Shared) (H : Hp) (C : Addr) (cls : List (Str × Addr)) (fp : List Addr), JTs (X.blk s H scope (compEnvC scope cls C X.env) fp) cl W0 ifs t)
    (he : ∀ (s : Shared) (H : Hp) (C : Addr) (cls : List (Str × Addr)) (fp : List Addr), JE (X.blk s H scope (compEnvC scope cls C X.env) fp) cl W0 elt f) (hvs : own.map (·.2) = vs := by rfl) (hs : ∀ x, foldedSetIterable iter X.env x = pure x := by intro _; rfl) :
    JE X cl W (.ListComp elt [⟨tg, iter, ifs, 0⟩] scope pos) (compOw fa vs g t f) := by
  subst hvs
  exact (pe_lc hc hN (pi_list hi) ok hg ht he hs).imp rd_lcG
end
end Fl
set_option Elab.async false
set_option linter.all false
set_option maxRecDepth 100000
namespace Fl
open PySem PySem.Spec PyProof.Rows L2
/-! ### a op b op c op d, as a test -/
def tTest3 (r r' r'' : R2) (ta tb tc td : TE) : TT := fun σ H Q => ta σ H fun x H1 => tb σ H1 fun y H2 => r x y H2 fun z H3 => ∃ k, z = .bl k ∧
  (if k = true then tc σ H3 fun u H4 => r' y u H4 fun z' H5 => ∃ k', z' = .bl k' ∧ (if k' = true then td σ H5 fun v H6 => r'' u v H6 fun z'' H7 => ∃ k'', z'' = .bl k'' ∧ Q k'' H7 else Q false H5) else Q false H3)
section
variable {X : Cx} {a b c d : Expr} {ta tb tc td : TE} {pos : Pos}
theorem pt_chain3 {op op' op'' : CmpOp} {r r' r'' : R2} (ho : OpR X (compareOp op) r) (ho' : OpR X (compareOp op') r') (ho'' : OpR X (compareOp op'') r'') (ha : PE X a ta) (hb : PE X b tb) (hc : PE X c tc) (hd : PE X d td)
    (hm : lastMarks [op, op', op''] [b, c, d] = false := by with_unfolding_all rfl) : PT X (.Compare a [op, op', op''] [b, c, d] pos) (tTest3 r r' r'' ta tb tc td) := by
  refine ⟨fun pins s σ H Q I h => ?_⟩
  refine isTrue_chain (thn (ha.run pins s σ H _ I h) fun v s1 ⟨x, H1, I1, r1, q1⟩ => test_link (thn (hb.run pins s1 σ H1 _ I1 q1) fun u s2 ⟨y, H2, I2, r2, q2⟩ =>
    thn (ho pins s2 σ H2 x y v u _ I2 r1 r2 q2) fun d s3 ⟨z, H3, I3, r3, k, e, q3⟩ => ?_)) hm
  subst e
  cases r3
  refine wpAny_truthy_bool ?_
  cases k with
  | false => exact ite_ff ⟨H3, I3, q3⟩
  | true =>
    refine ite_tt (test_link (thn (hc.run pins s3 σ H3 _ I3 q3) fun u' s4 ⟨y', H4, I4, r4, q4⟩ => thn (ho' pins s4 σ H4 y y' u u' _ I4 r2 r4 q4) fun d s5 ⟨z', H5, I5, r5, k', e', q5⟩ => ?_))
    subst e'
    cases r5
    refine wpAny_truthy_bool ?_
    cases k' with
    | false => exact ite_ff ⟨H5, I5, q5⟩
    | true =>
      refine ite_tt (test_last (thn (hd.run pins s5 σ H5 _ I5 q5) fun w' s6 ⟨z2, H6, I6, r6, q6⟩ => thn (ho'' pins s6 σ H6 y' z2 u' w' _ I6 r4 r6 q6) fun d' s7 ⟨z3, H7, I7, r7, k2, e2, q7⟩ => ?_))
      subst e2
      cases r7
      exact wpAny_truthy_bool ⟨H7, I7, q7⟩
variable {cl : Nat → Value} {W : WX} {fa fb fc fd : EF}
def chain3T (g g' g'' : Op2) (fa fb fc fd : EF) : BF := fun δ s => (fa δ s).bind fun x s1 => (fb δ s1).bind fun y s2 => (g s2 x y).bind fun z s3 => match z with
  | .bl true => (fc δ s3).bind fun u s4 => (g' s4 y u).bind fun z' s5 => match z' with
    | .bl true => (fd δ s5).bind fun v s6 => (g'' s6 u v).bind fun z'' s7 => match z'' with
      | .bl b => .val b s7
      | _ => .stuck
    | .bl false => .val false s5
    | _ => .stuck
  | .bl false => .val false s3
  | _ => .stuck
theorem jt_chain3 {op op' op'' : CmpOp} {r r' r'' : R2} {g g' g'' : Op2} (ho : OpR X (compareOp op) r) (ho' : OpR X (compareOp op') r') (ho'' : OpR X (compareOp op'') r'') (ok : Ok2 X.K r g) (ok' : Ok2 X.K r' g') (ok'' : Ok2 X.K r'' g'') (ha : JE X cl W a fa) (hb : JE X cl W b fb) (hc : JE X cl W c fc) (hd : JE X cl W d fd)
    (hm : lastMarks [op, op', op''] [b, c, d] = false := by with_unfolding_all rfl) : JT X cl W (.Compare a [op, op', op''] [b, c, d] pos) (chain3T g g' g'' fa fb fc fd) := (pt_chain3 ho ho' ho'' ha hb hc hd hm).imp fun σ H Q h => by
  obtain ⟨M, ι, δ, s, C, S, P⟩ := h
  refine ⟨M, ι, δ, s, C, S, Post.mono (Post.bind (Rep X.K) P) fun u1 H1 m => ?_⟩
  obtain ⟨M1, ι1, x, s1, t1, C1, r1, P1⟩ := m.ex
  have S1 := S.step t1
  refine ⟨M1, ι1, δ, s1, C1, S1, Post.mono (Post.bind (Rep X.K) P1) fun u2 H2 m => ?_⟩
  obtain ⟨M2, ι2, y, s2, t2, C2, r2, P2⟩ := m.ex
  have S2 := S1.step t2
  refine ok _ M2 ι2 s2 H2 x y u1 u2 _ C2 (r1.step t2) r2 (Post.mono (Post.bind (Rep X.K) P2) fun z H3 m => ?_)
  obtain ⟨M3, ι3, zd, s3, t3, C3, r3, P3⟩ := m.ex
  have S3 := S2.step t3
  cases zd with
  | bl k =>
    refine ⟨k, r3.bl, ?_⟩
    cases k with
    | false => exact iteF (Post.now (C := CB) P3 C3 rfl)
    | true =>
      refine iteT ⟨M3, ι3, δ, s3, C3, S3, Post.mono (Post.bind (Rep X.K) P3) fun u4 H4 m => ?_⟩
      obtain ⟨M4, ι4, w, s4, t4, C4, r4, P4⟩ := m.ex
      have S4 := S3.step t4
      refine ok' _ M4 ι4 s4 H4 y w u2 u4 _ C4 ((r2.step t3).step t4) r4 (Post.mono (Post.bind (Rep X.K) P4) fun z H5 m => ?_)
      obtain ⟨M5, ι5, zd, s5, t5, C5, r5, P5⟩ := m.ex
      have S5 := S4.step t5
      cases zd with
      | bl k =>
        refine ⟨k, r5.bl, ?_⟩
        cases k with
        | false => exact iteF (Post.now (C := CB) P5 C5 rfl)
        | true =>
          refine iteT ⟨M5, ι5, δ, s5, C5, S5, Post.mono (Post.bind (Rep X.K) P5) fun u6 H6 m => ?_⟩
          obtain ⟨M6, ι6, v, s6, t6, C6, r6, P6⟩ := m.ex
          refine ok'' _ M6 ι6 s6 H6 w v u4 u6 _ C6 ((r4.step t5).step t6) r6 (Post.mono (Post.bind (Rep X.K) P6) fun z H7 m => ?_)
          obtain ⟨M7, ι7, zd, s7, t7, C7, r7, P7⟩ := m.ex
          cases zd with
          | bl k => exact ⟨k, r7.bl, Post.now (C := CB) P7 C7 rfl⟩
          | _ => exact P7.elim
      | _ => exact P5.elim
  | _ => exact P3.elim
end
end Fl
set_option Elab.async false
set_option linter.all false
set_option maxRecDepth 100000
namespace FlSet
open PySem PySem.Spec PyProof.Rows L2
/-! sets of keys of one kind, with their order's table: set(list), sorted(set(list)) -/
structure Kn (P : Program) (w : World) (κ : Type) [DecidableEq κ] where
  knd : PySem.KeyKind P w κ
  dec : Value → κ
  hd : ∀ k v, knd.is k v = true → dec v = k
  sc : ∀ k v, knd.is k v = true → v.scannable = true
section
variable {P : Program} {w : World} {κ : Type} [DecidableEq κ] (D : Kn P w κ)
abbrev Kn.key (e : Int × Value) : κ := D.dec e.2
def Kn.keys (es : Array (Int × Value)) : List κ := es.toList.map D.key
/-- what the entries are -/
structure Ent (es : Array (Int × Value)) (ks : List κ) : Prop where
  good : ∀ e ∈ es.toList, D.knd.is (D.key e) e.2 = true ∧ e.1 = D.knd.hash (D.key e)
  nd : (D.keys es).Nodup
  mem : ∀ k, k ∈ D.keys es ↔ k ∈ ks
  le : es.size ≤ ks.length
def Led (w : World) (t : SetTable) : Prop := w.params.followText "set-order" = true ∨ t.led = true
structure Tab (w : World) (es : Array (Int × Value)) (t : SetTable) : Prop where
  fits : t.fits es.size = true
  ris : Ris t.place.toList
  led : Led w t
def SetG (h : Heap) (a : Addr) (ks : List κ) : Prop := ∃ o es ep t, h.get? a = some o ∧ o.ExactSet ∧ o.data = .set es ep t ∧ Ent D es ks ∧ Tab w es t
variable {D}
theorem Ent.elems {es : Array (Int × Value)} {ks : List κ} (x : Ent D es ks) : ElemsOf D.knd es.toList := fun e he =>
  ⟨⟨D.key e, (x.good e he).1, (x.good e he).2⟩, D.sc _ _ (x.good e he).1⟩
/-- few different keys -/
def Few {κ : Type} (ks : List κ) : Prop := ∃ U : List κ, U.length < scanBound ∧ ∀ k ∈ ks, k ∈ U
theorem Few.of_len {κ : Type} {ks : List κ} (h : ks.length < scanBound) : Few ks := ⟨ks, h, fun _ h => h⟩
theorem Few.sub {κ : Type} {ks ls : List κ} (h : Few ks) (s : ∀ k ∈ ls, k ∈ ks) : Few ls := let ⟨U, a, b⟩ := h; ⟨U, a, fun k hk => b k (s k hk)⟩
theorem Few.lt {κ : Type} [DecidableEq κ] {ks ls : List κ} (h : Few ks) (nd : ls.Nodup) (s : ∀ k ∈ ls, k ∈ ks) : ls.length < scanBound := by
  obtain ⟨U, a, b⟩ := h
  have : ls.length ≤ U.length := List.Nodup.length_le_of_subset nd (fun k hk => b k (s k hk))
  omega
theorem Ent.lt {es : Array (Int × Value)} {ks : List κ} (x : Ent D es ks) (h : Few ks) : es.size < scanBound := by
  have := h.lt x.nd (fun k hk => (x.mem k).mp hk)
  simpa [Kn.keys] using this
theorem SetG.at {h h' : Heap} {a : Addr} {ks : List κ} (R : SetG D h a ks) (k : ∀ o, h.get? a = some o → h'.get? a = some o) : SetG D h' a ks := by
  obtain ⟨o, es, ep, t, ho, r⟩ := R
  exact ⟨o, es, ep, t, k o ho, r⟩
theorem Ent.more {es es1 : Array (Int × Value)} {ks : List κ} {k : κ} {v : Value} (x : Ent D es ks) (hk : D.knd.is k v = true) (hn : k ∉ ks) (pm : es1.toList.Perm ((D.knd.hash k, v) :: es.toList)) : Ent D es1 (ks ++ [k]) := by
  have hv : D.key (D.knd.hash k, v) = k := D.hd k v hk
  have pk : (D.keys es1).Perm (k :: D.keys es) := by
    have q := pm.map D.key
    rw [List.map_cons, hv] at q; exact q
  refine ⟨fun e he => ?_, ?_, fun i => ?_, ?_⟩
  · rcases List.mem_cons.mp (pm.mem_iff.mp he) with z | z
    · rw [z, hv]; exact ⟨hk, rfl⟩
    · exact x.good e z
  · exact pk.nodup_iff.mpr (List.nodup_cons.mpr ⟨fun z => hn ((x.mem k).mp z), x.nd⟩)
  · rw [pk.mem_iff, List.mem_cons, x.mem, List.mem_append, List.mem_singleton]; exact Or.comm
  · have q := pm.length_eq
    rw [Array.length_toList, List.length_cons, Array.length_toList] at q
    have := x.le
    simp; omega
theorem Ent.perm {es es1 : Array (Int × Value)} {ks : List κ} (x : Ent D es ks) (pm : es1.toList.Perm es.toList) : Ent D es1 ks := by
  have pk : (D.keys es1).Perm (D.keys es) := pm.map D.key
  have q := pm.length_eq
  rw [Array.length_toList, Array.length_toList] at q
  exact ⟨fun e he => x.good e (pm.mem_iff.mp he), pk.nodup_iff.mpr x.nd, fun i => pk.mem_iff.trans (x.mem i), by have := x.le; omega⟩
theorem Ent.same {es : Array (Int × Value)} {ks : List κ} {k : κ} (x : Ent D es ks) (hn : k ∈ ks) : Ent D es (ks ++ [k]) :=
  ⟨x.good, x.nd, fun i => by rw [x.mem, List.mem_append, List.mem_singleton]; exact ⟨.inl, fun z => z.elim id fun e => e ▸ hn⟩, by have := x.le; simp; omega⟩
end
section
variable {P : Program} {w : World} {κ : Type} [DecidableEq κ] {D : Kn P w κ} {A : Around} {E : Value → Shared → Prop} {s : Shared} {a : Addr} {ks : List κ}
/-- an entry is stored, the table laid anew where it is too full -/
theorem sg_store {g : Bool → Sem Unit} (hg : ∀ (b : Bool) (s1 : Shared) (Q1 : Unit → Shared → Prop), Q1 () s1 → wpAny (model P w) A (g b) Q1 E s1) {o : Obj} {es es1 : Array (Int × Value)} {ep : Nat} {t t2 : SetTable}
    (ho : s.heap.get? a = some o) (hex : o.ExactSet) (hd : o.data = .set es ep t) (x : Ent D es1 ks) (hb : Few ks) (T : Tab w es1 t2) {was : Bool} {R : Option Bool → Shared → Prop}
    (hR : ∀ h', Heap.SameBut a s.heap h' → SetG D h' a ks → R (some true) { s with heap := h' }) :
    wpAny (model P w) A (do
      storeSet a es1 t2
      if (!was && t2.tooFull) = true then do
        g (relayAll t2 es1 (SetTable.grown es1.size)).2.2
        storeSet a (relayAll t2 es1 (SetTable.grown es1.size)).1 (relayAll t2 es1 (SetTable.grown es1.size)).2.1
        pure (some true)
      else pure (some true)) R E s := by
  have hb1 : es1.size < scanBound := x.lt hb
  refine wpAny_bind (wpAny_storeSet_of ho hd ?_ (fits_of_scanBound hb1))
  have o1 := store_at (es' := es1) (t' := t2) ho hd
  have same1 := Heap.SameBut.update s.heap a (Obj.putSet es1 t2)
  by_cases hfull : (!was && t2.tooFull) = true
  · rw [if_pos hfull]
    have p1 := relayAll_perm t2 es1 (SetTable.grown es1.size)
    have p2 := relayAll_fits t2 es1 (SetTable.grown es1.size)
    have p3 := relayAll_ris t2 es1 (SetTable.grown es1.size)
    have p4 := relayAll_led t2 es1 (SetTable.grown es1.size)
    revert p1 p2 p3 p4
    generalize relayAll t2 es1 (SetTable.grown es1.size) = Z
    obtain ⟨es2, t3, gave⟩ := Z
    intro p1 p2 p3 p4
    have sz : es2.size = es1.size := by have := p1.length_eq; rwa [Array.length_toList, Array.length_toList] at this
    refine wpAny_bind (hg gave _ _ ?_)
    refine wpAny_bind (wpAny_storeSet_of o1 rfl ?_ (fits_of_scanBound (show es2.size < scanBound by rw [sz]; exact hb1)))
    exact wpAny_pure (hR _ (same1.trans (Heap.SameBut.update _ a _)) ⟨_, es2, _, t3, store_at (es' := es2) (t' := t3) o1 rfl, hex, rfl, x.perm p1, p2, p3, T.led.imp id fun z => by rw [show t3.led = t2.led from p4]; exact z⟩)
  · rw [if_neg hfull]
    exact wpAny_pure (hR _ same1 ⟨_, es1, _, t2, o1, hex, rfl, x, T⟩)
theorem gave_way (b : Bool) {s1 : Shared} {Q1 : Unit → Shared → Prop} (q : Q1 () s1) : wpAny (model P w) A (match b with | true => rule "set.scan.the-table-gave-way" | false => pure ()) Q1 E s1 := by
  cases b
  · exact wpAny_pure q
  · exact wpAny_rule q
theorem sg_add {k : κ} {v : Value} {Q : Bool → Shared → Prop} (R : SetG D s.heap a ks) (hk : D.knd.is k v = true) (room : Few (ks ++ [k]))
    (hQ : ∀ b h', Heap.SameBut a s.heap h' → SetG D h' a (ks ++ [k]) → Q b { s with heap := h' }) : wpAny (model P w) A (setAddHashed a v (D.knd.hash k)) Q E s := by
  obtain ⟨o, es, ep, t, ho, hex, hd, x, T⟩ := R
  have hsc := D.sc k v hk
  have hb : es.size < scanBound := x.lt (room.sub fun k hk => List.mem_append_left _ hk)
  unfold setAddHashed setAddHashedIn
  refine wpAny_holding (wpAny_bind (wpAny_setState_of ho hd T.fits ?_))
  dsimp only
  rw [byScan_of hsc hb x.elems]
  simp only [↓reduceIte]
  unfold setAddByScan
  refine wpAny_bind (wpAny_bind (wpAny_rule (wpAny_bind (wpAny_setScan_of hk ho hd T.fits x.elems ?_))))
  cases hf : List.findIdx? (fun e => D.knd.is k e.2) es.toList with
  | some j =>
    obtain ⟨hj, pj, _⟩ := List.findIdx?_eq_some_iff_getElem.mp hf
    have hin : k ∈ ks := (x.mem k).mp (List.mem_map.mpr ⟨_, List.getElem_mem hj, D.hd k _ pj⟩)
    exact wpAny_pure (wpAny_pure (hQ _ s.heap (Heap.SameBut.refl a s.heap) ⟨o, es, ep, t, ho, hex, hd, x.same hin, T⟩))
  | none =>
    have hno : k ∉ ks := fun z => by
      obtain ⟨e, he, q⟩ := List.mem_map.mp ((x.mem k).mpr z)
      have c := List.findIdx?_eq_none_iff.mp hf e he
      have c2 := (x.good e he).1
      rw [q, c] at c2
      cases c2
    dsimp only
    have p1 := layNew_perm t es (D.knd.hash k) v
    have p2 := layNew_fits t es (D.knd.hash k) v
    have p3 := layNew_ris t es (D.knd.hash k) v T.ris
    have p4 := layNew_led t es (D.knd.hash k) v
    revert p1 p2 p3 p4
    generalize layNew t es (D.knd.hash k) v = Z
    obtain ⟨es1, t1, was, gave⟩ := Z
    intro p1 p2 p3 p4
    dsimp only at p1 p2 p3 p4 ⊢
    rw [Array.toList_push] at p1
    have x1 : Ent D es1 (ks ++ [k]) := x.more hk hno (p1.trans (List.perm_append_singleton _ _))
    have l1 : Led w t1 := T.led.imp id fun z => by rw [p4]; exact z
    have hbb : Few (ks ++ [k]) := room
    refine wpAny_bind (gave_way gave ?_)
    have hgw : ∀ (b : Bool) (s1 : Shared) (Q1 : Unit → Shared → Prop), Q1 () s1 → wpAny (model P w) A (match b with | true => rule "set.scan.the-table-gave-way" | false => pure ()) Q1 E s1 := fun b s1 Q1 q => gave_way b q
    split
    · refine wpAny_bind ?_
      rw [hashByValue_scannable 8 hsc]
      refine wpAny_pure ?_
      refine sg_store ?_ ho hex hd x1 hbb ?_ ?_
      · intro b s1 Q1 q; cases b <;> first | exact wpAny_pure q | exact wpAny_rule q
      · split <;> first | exact ⟨p2, p3, l1⟩ | exact ⟨SetTable.fits_plain_off p2, p3, l1⟩
      · intro h' sb r; exact wpAny_pure (hQ _ h' sb r)
    · refine wpAny_bind (wpAny_pure ?_)
      simp only [↓reduceIte]
      refine sg_store ?_ ho hex hd x1 hbb ⟨p2, p3, l1⟩ ?_
      · intro b s1 Q1 q; cases b <;> first | exact wpAny_pure q | exact wpAny_rule q
      · intro h' sb r; exact wpAny_pure (hQ _ h' sb r)
end
section
variable {P : Program} {w : World} {κ : Type} [DecidableEq κ] {D : Kn P w κ} {A : Around} {E : Value → Shared → Prop} {s : Shared}
/-- the empty set as it is made -/
def emp (w : World) : Obj := { cls := .type "set", dict := none, data := .set #[] 0 (.fresh 0 0 (!w.params.followText "set-order")) }
theorem SetG.emp {h : Heap} {a : Addr} (ho : h.get? a = some (emp w)) : SetG D h a [] :=
  ⟨_, #[], 0, _, ho, ⟨rfl, rfl, rfl⟩, rfl, ⟨fun e he => absurd he (by simp), List.Pairwise.nil, fun k => by simp [Kn.keys], Nat.le_refl _⟩, ⟨rfl, List.Pairwise.nil, by
    show _ ∨ (!w.params.followText "set-order") = true
    cases w.params.followText "set-order" <;> simp⟩⟩
theorem sg_loop {I : Addr} {fp wr : List Addr} {G : Array GenState → Array GenState → Prop} {n : Nat} {Pv : Nat → Value → Prop} {St : Nat → Shared → Prop} {R : Result → Shared → Prop} (W : WalksS P w A.in1 I fp wr G n Pv St)
    (S : Addr) (hS : S ∉ fp) (xs : List κ) (hn : n = xs.length) (hb : Few xs) (hv : ∀ i v, Pv i v → ∃ k, xs[i]? = some k ∧ D.knd.is k v = true) :
    ∀ (m i : Nat) (s : Shared), n - i = m → i ≤ n → St i s → SetG D s.heap S (xs.take i) → (∀ s1, Moved (S :: wr) G s s1 → SetG D s1.heap S xs → R (.ok (.ret .none)) s1) → codeAny (model P w) A (.builtin "set.update.loop" ⟨[.ref S, .ref I], []⟩) R s := by
  have sw : S ∉ wr := fun z => hS (W.sub _ z)
  have up : ∀ b ∈ wr, b ∈ S :: wr := fun b z => List.mem_cons_of_mem _ z
  intro m
  induction m with
  | zero =>
    intro i s hm hi st g hR
    obtain rfl : i = n := by omega
    refine codeAny_builtin F.entry_set_update_loop ?_
    rw [Around.under_plainId F.plain_set_update_loop _]
    show wpAny _ A.in1 (pyNext (.ref I) >>= _) _ _ s
    refine wpAny_bind (W.done s _ _ st fun s1 mv => ?_)
    rw [List.take_of_length_le (Nat.le_of_eq hn.symm)] at g
    exact wpAny_pure (hR s1 (mv.mono up) (g.at fun o e => mv.heap S o sw e))
  | succ m ih =>
    intro i s hm hi st g hR
    have lt : i < n := by omega
    refine codeAny_builtin F.entry_set_update_loop ?_
    rw [Around.under_plainId F.plain_set_update_loop _]
    show wpAny _ A.in1 (pyNext (.ref I) >>= _) _ _ s
    refine wpAny_bind (W.item i s _ _ lt st fun v s1 pv st1 mv => ?_)
    obtain ⟨k, hk, is⟩ := hv i v pv
    have g1 : SetG D s1.heap S (xs.take i) := g.at fun o e => mv.heap S o sw e
    show wpAny _ A.in1 (holding [v] (setAdd S v) >>= _) _ _ s1
    refine wpAny_bind (wpAny_holding ?_)
    unfold setAdd
    refine wpAny_holding (wpAny_bind (D.knd.pyHash (k := k) is ?_))
    refine sg_add (s := { s1 with toks := s1.toks + 1 }) g1 is (hb.sub fun z hz => (List.mem_append.mp hz).elim List.mem_of_mem_take fun q => List.mem_singleton.mp q ▸ List.mem_of_getElem? hk) fun _ h1 sb g2 => ?_
    have g3 : SetG D h1 S (xs.take (i + 1)) := by rw [List.take_add_one, hk]; exact g2
    refine wpAny_pure ⟨plainId_quiet F.plain_set_update_loop _, ih (i + 1) _ (by omega) lt (W.frame _ s1 _ _ st1 (Nat.le_succ _) fun b hbf o e => ?_) g3 fun s2 mv2 g4 => ?_⟩
    · rw [hbf |> fun z => sb.2 b fun q : b = S => hS (q ▸ z)]; exact e
    · refine hR s2 (Moved.trans W.gtrans ((mv.mono up).then_heap (Nat.le_succ _) fun b o z e => ?_) mv2) g4
      rw [sb.2 b fun q : b = S => z (q ▸ List.mem_cons_self)]; exact e
set_option maxHeartbeats 3200000 in
/-- set(l), l a list -/
theorem sg_call {l : Addr} {items : Array Value} (xs : List κ) {Q : Value → Shared → Prop} (hh : A.handled = none) (hl : s.heap.IsList l items) (hsz : items.size = xs.length) (hb : Few xs) (hv : ∀ (i : Nat) v, items[i]? = some v → ∃ k, xs[i]? = some k ∧ D.knd.is k v = true)
    (h : ∀ (h1 : Heap) (tk : Nat), SetG D h1 s.heap.objs.size xs → (∀ b o, s.heap.get? b = some o → h1.get? b = some o) → Q (.ref s.heap.objs.size) { s with heap := h1, toks := tk }) : wpAny (model P w) A (call (.type "set") [.ref l]) Q E s := by
  obtain ⟨c, tl, mr⟩ := F.called_set.mro
  have made := F.called_set.made
  have sub := F.called_set.sub
  refine wpAny_call (codeAny_of_tree ?_)
  show wpAny _ _ (callAny (.type "set") _) _ _ _
  refine wpAny_pure ⟨Code.quiet_builtin _ (by decide +kernel), codeAny_builtin F.entry_type_call ?_⟩
  rw [Around.under_plain (weight_type_call_type "set" [.ref l] []) rfl]
  have nt := F.called_set.notType
  have cc := F.called_set.canCreate
  have tc := F.typeCall_set_1 (.ref l)
  repeat (any_goals (first | assumption | wp_step))
  have news : ∀ o, o = emp w → (s.heap.push o).get? s.heap.objs.size = some (emp w) := fun o e => by rw [e]; exact Heap.get?_push_size _ rfl
  refine codeAny_mono (code_set_led1 (.ref l) (E := E) (Q₁ := fun ob s1 => ob = .ref s.heap.objs.size ∧ s1 = { s with heap := s.heap.push (emp w) }) ⟨rfl, rfl⟩) fun r s1 hr => ?_
  cases r with
  | error e => exact hr
  | ok fl =>
    cases fl with
    | ret ob =>
      obtain ⟨rfl, rfl⟩ := hr
      have gS := news _ rfl
      have tS : Shared.TypeIs { s with heap := s.heap.push (emp w) } (.ref s.heap.objs.size) "set" := ⟨_, gS, rfl⟩
      have li := F.called_set.init.lookup
      have bi := F.called_set.init.bind (.ref s.heap.objs.size)
      repeat (any_goals (first | assumption | wp_step))
      refine codeAny_mono (codeAny_call_builtin (R := wants (fun r s2 => r = .none ∧ ∃ h1 tk, s2 = { s with heap := h1, toks := tk } ∧ SetG D h1 s.heap.objs.size xs ∧ ∀ b o, s.heap.get? b = some o → h1.get? b = some o) E) F.called_set.init.plain F.entry_set_init (check_set_init_1 tS ?_)) fun r2 s2 hr2 => ?_
      · obtain ⟨ol, gl, cl, nl, dl⟩ := hl
        obtain ⟨oc, od, oda, osl⟩ := ol
        simp only at cl dl
        subst cl dl
        have gl1 : (s.heap.push (emp w)).get? l = some { cls := .type "list", dict := od, data := .seq items nl, slots := osl } := Heap.get?_push_of_some _ gl
        have s1 := F.sub_list_set
        have s2 := F.sub_list_frozenset
        have n1 : (Value.type "list" == Value.type "dict") = false := by decide
        have hl1 : (s.heap.push (emp w)).IsList l items := ⟨_, gl1, rfl, nl, rfl⟩
        unfold Builtin.«set.__init__» noKeywords Builtin.Frozenset.updateFrom
        generalize hPI : pyIter = PI
        wp_walk
        subst hPI
        refine wpAny_pyIter_list hl1 (wpAny_bind (wpAny_runValue ?_))
        have lt := Heap.lt_size gl
        have sz : (s.heap.push (emp w)).objs.size = s.heap.objs.size + 1 := Heap.size_push ..
        have ne : l ≠ (s.heap.push (emp w)).objs.size := fun z => Nat.lt_irrefl l (Nat.lt_of_lt_of_le lt (by rw [z, sz]; exact Nat.le_succ _))
        have nf : s.heap.objs.size ∉ [(s.heap.push (emp w)).objs.size, l] := by
          rw [sz]
          intro z
          rcases List.mem_cons.mp z with z | z
          · exact Nat.ne_of_lt (Nat.lt_succ_self _) z
          · exact Nat.ne_of_gt lt (List.mem_singleton.mp z)
        refine sg_loop (D := D) ((Walks.list (by simp [hh]) _ l ne items).toS) s.heap.objs.size nf xs hsz hb hv (items.size - 0) 0 _ (by omega) (Nat.zero_le _)
          ⟨⟨_, Heap.get?_push_size _ rfl, rfl, rfl⟩, hl1.push _⟩ ?g0 ?gR
        case g0 => exact SetG.emp (Heap.get?_push_of_some _ gS)
        case gR =>
          intro s3 mv g3
          obtain ⟨h3, g3', d3, tk3, os3⟩ := s3
          obtain rfl : g3' = s.gens := mv.gens
          obtain rfl : d3 = s.drawn := mv.drawn
          obtain rfl : os3 = s.os := mv.os
          show wpAny _ _ _ _ _ _
          refine wpAny_pure ?_
          show wpAny _ _ (ret Value.none) _ _ _
          refine wpAny_pure ⟨rfl, h3, tk3, rfl, g3, fun b o e => mv.heap b o ?_ (Heap.get?_push_of_some _ (Heap.get?_push_of_some _ e))⟩
          have hb1 := Heap.lt_size e
          rw [sz]
          intro z
          rcases List.mem_cons.mp z with z | z
          · exact Nat.ne_of_lt hb1 z
          · exact Nat.ne_of_lt (Nat.lt_succ_of_lt hb1) (List.mem_singleton.mp z)
      · cases r2 with
        | error e => exact hr2
        | ok fl2 =>
          cases fl2 with
          | ret r =>
            obtain ⟨rfl, h1, tk, rfl, g1, k1⟩ := hr2
            repeat (any_goals (first | assumption | wp_step))
            exact h _ _ g1 k1
          | _ => exact hr2.elim
    | _ => exact hr.elim
end
end FlSet
set_option Elab.async false
set_option linter.all false
set_option maxRecDepth 100000
namespace FlSet
open PySem PySem.Spec PyProof.Rows L2
section
variable (P : Program) (w : World)
def knI : Kn P w Int where
  knd := PySem.intKind P w
  dec := fun v => match v with | .int k _ => k | _ => 0
  hd := fun k v h => by obtain ⟨t, rfl⟩ := Value.isInt_shape h; rfl
  sc := fun k v h => by obtain ⟨t, rfl⟩ := Value.isInt_shape h; rfl
def knS : Kn P w Str where
  knd := PySem.strKind P w
  dec := fun v => match v with | .str k _ => k | _ => ⟨#[]⟩
  hd := fun k v h => by obtain ⟨t, rfl⟩ := Value.isStrOf_shape h; rfl
  sc := fun k v h => by obtain ⟨t, rfl⟩ := Value.isStrOf_shape h; rfl
end
section
variable {P : Program} {w : World} {κ : Type} [DecidableEq κ] {D : Kn P w κ} {A : Around} {E : Value → Shared → Prop} {s : Shared} {a : Addr} {ks : List κ}
theorem sg_sorted {Are : List Value → List κ → Prop} {Srt : List κ → Prop} {Q : Value → Shared → Prop} (R : SetG D s.heap a ks) (hh : A.handled = none) (hb : Few ks)
    (hAre : ∀ vs : List Value, (∀ v ∈ vs, D.knd.is (D.dec v) v = true) → Are vs (vs.map D.dec))
    (hs : ∀ {A' : Around} {E' : Value → Shared → Prop} {s' : Shared} {m : Addr} {vs : List Value} {ys : List κ} {n : Nat} {F : Fin → Shared → Prop}, s'.heap.get? m = some (seqObj "list" vs.toArray n) → Are vs ys → vs.length ≤ sizeLine →
      (∀ (out : Array Value) (zs : List κ), Are out.toList zs → zs.Perm ys → Srt zs → F (.done (.ret .none)) { s' with heap := sortedHeap s'.heap m vs out }) → wpAny (model P w) A' (Builtin.«list.sort» ⟨[.ref m], []⟩) F E' s')
    (hQ : ∀ s1 p (out : Array Value) (c : Nat) (zs : List κ), (∀ b o, s.heap.get? b = some o → s1.heap.get? b = some o) → s1.gens = s.gens → s1.os = s.os → s.heap.objs.size ≤ p → s1.heap.get? p = some (seqObj "list" out c) → Are out.toList zs → zs.Nodup → (∀ k, k ∈ zs ↔ k ∈ ks) → Srt zs → zs.length ≤ ks.length → Q (.ref p) s1) :
    wpAny (model P w) A (call (.builtin "sorted") [.ref a]) Q E s := by
  obtain ⟨o, es, ep, t, ho, hex, hd, x, T⟩ := R
  refine Calls.call_function_entry kind_sorted plain_sorted entry_sorted (args_sorted1 _) ?_
  unfold Builtin.«sorted»
  refine wpAny_bind (m := checkCount "sorted" 1 1 _) (wpAny_pure (wpAny_bind (collect_set (A := A.in1) hh ⟨o, ho, hex.1, hd⟩ T.fits (x.lt hb) T.ris T.led fun s1 vs k1 hz g1 o1 pm => ?_)))
  have len : vs.length ≤ ks.length := by
    rw [pm.length_eq, List.length_map, Array.length_toList]; exact x.le
  have sl : vs.length ≤ sizeLine := by
    have h1 := x.lt hb
    have h2 := pm.length_eq
    rw [List.length_map] at h2
    have h3 : es.toList.length = es.size := Array.length_toList
    rw [sizeLine_eq]; unfold scanBound at h1; omega
  have are : Are vs (vs.map D.dec) := hAre vs fun v hv => by
    obtain ⟨e, he, q⟩ := List.mem_map.mp (pm.mem_iff.mp hv)
    rw [← q]; exact (x.good e he).1
  have pk : (vs.map D.dec).Perm (D.keys es) := by
    have q := pm.map D.dec
    rw [List.map_map] at q; exact q
  refine wpAny_bind (wpAny_newList ?_ sl)
  have gl : (s1.heap.push (seqObj "list" vs.toArray 0)).get? s1.heap.objs.size = some (seqObj "list" vs.toArray 0) := Heap.get?_push_size _ rfl
  refine wpAny_bind (wpAny_holding (wpAny_call_entry slot_list_sort ⟨_, gl, rfl⟩ entry_list_sort (hs gl are sl fun out zs a1 a2 a3 => ⟨_, rfl, ?_⟩) (args_list_sort _)))
  obtain ⟨c, hc⟩ := sortedHeap_at (vs := vs) (out := out) gl
  have pn : zs.Perm (D.keys es) := a2.trans pk
  refine wpAny_pure ⟨_, rfl, hQ _ s1.heap.objs.size out c zs (fun b u e => ?_) g1 o1 hz hc a1 (pn.nodup_iff.mpr x.nd) (fun k => pn.mem_iff.trans (x.mem k)) a3 ?_⟩
  · have e1 := k1 b u e
    have lt := Heap.lt_size e1
    show (sortedHeap (s1.heap.push (seqObj "list" vs.toArray 0)) s1.heap.objs.size vs out).get? b = some u
    rw [sortedHeap_old (Nat.ne_of_lt lt) (by rw [size_push']; exact Nat.lt_succ_of_lt lt)]
    exact Heap.get?_push_of_some _ e1
  · rw [a2.length_eq, List.length_map]; exact len
end
theorem intsAre_map : ∀ vs : List Value, (∀ v ∈ vs, (knI P w).knd.is ((knI P w).dec v) v = true) → IntsAre vs (vs.map (knI P w).dec)
  | [], _ => .nil
  | v :: vs, h => by
    obtain ⟨t, e⟩ := Value.isInt_shape (h v (by simp))
    have ih := intsAre_map vs fun z hz => h z (by simp [hz])
    rw [List.map_cons]
    generalize (knI P w).dec v = k at e ⊢
    subst e
    exact .cons k t ih
theorem strsAre_map : ∀ vs : List Value, (∀ v ∈ vs, (knS P w).knd.is ((knS P w).dec v) v = true) → StrsAre vs (vs.map (knS P w).dec)
  | [], _ => .nil
  | v :: vs, h => by
    obtain ⟨t, e⟩ := Value.isStrOf_shape (h v (by simp))
    have ih := strsAre_map vs fun z hz => h z (by simp [hz])
    rw [List.map_cons]
    generalize (knS P w).dec v = k at e ⊢
    subst e
    exact .cons k t ih
section
variable {P : Program} {w : World} {A : Around} {E : Value → Shared → Prop} {s : Shared}
theorem sort_strs {m : Addr} {vs : List Value} {ys : List Str} {n : Nat} {F : Fin → Shared → Prop} (ho : s.heap.get? m = some (seqObj "list" vs.toArray n)) (hS : StrsAre vs ys) (hL : vs.length ≤ sizeLine)
    (h : ∀ (out : Array Value) (zs : List Str), StrsAre out.toList zs → zs.Perm ys → sortedS zs = true → F (.done (.ret .none)) { s with heap := sortedHeap s.heap m vs out }) : wpAny (model P w) A (Builtin.«list.sort» ⟨[.ref m], []⟩) F E s :=
  list_sort_treeKAny strKind_oneLt ho hS.keysOf (fun v1 v2 rest e => keyKind_strs (by rw [← e]; exact hS)) hL fun st hp hs => by
    obtain ⟨zs, h1, h2, h3⟩ := sorted_out_str hS hp hs
    exact h _ zs h1 h2 h3
end
theorem strs_ix : ∀ {vs : List Value} {xs : List Str}, StrsAre vs xs → ∀ (i : Nat) (v : Value), vs[i]? = some v → ∃ k t, xs[i]? = some k ∧ v = .str k t
  | _, _, .nil, i, v, h => by simp at h
  | _, _, .cons y t hr, 0, v, h => by simp at h; exact ⟨y, t, rfl, h.symm⟩
  | _, _, .cons y t hr, i + 1, v, h => by
    rw [List.getElem?_cons_succ] at h
    obtain ⟨k, t', e1, e2⟩ := strs_ix hr i v h
    exact ⟨k, t', by rw [List.getElem?_cons_succ]; exact e1, e2⟩
/-! ### sorted(set(l)) -/
def tSS (K : PySem.W.Frag) (ta : TE) : TE := fun σ H Q => ta σ H fun x H1 =>
  (∃ (l : Addr) (ns : List Int), x = .ref l ∧ SqL K H1 l (ns.map V.int) ∧ Few ns ∧ ∀ (zs : List Int) (p : Addr), zs.Nodup → (∀ k, k ∈ zs ↔ k ∈ ns) → zs.Pairwise (· ≤ ·) → zs.length ≤ ns.length → H1 p = none → Q (.ref p) (upd H1 p (.lst (zs.map V.int))))
  ∨ ∃ (l : Addr) (xs : List Str), x = .ref l ∧ SqL K H1 l (xs.map V.str) ∧ Few xs ∧ ∀ (zs : List Str) (p : Addr), zs.Nodup → (∀ k, k ∈ zs ↔ k ∈ xs) → sortedS zs = true → zs.length ≤ xs.length → H1 p = none → Q (.ref p) (upd H1 p (.lst (zs.map V.str)))
theorem pe_ss {X : Cx} {a : Expr} {ta : TE} {p p2 q pos : Pos} (hg : Gl X "sorted") (hm : X.mg "sorted" = none) (hg2 : Gl X "set") (hm2 : X.mg "set" = none) (hb : bootBuiltins "sorted" = some (.builtin "sorted")) (hb2 : bootBuiltins "set" = some (.type "set")) (ha : PE X a ta) (hc : X.calm = true := by rfl)
    (na : starEach [a] X.env = (false, eval a X.env) :: starEach [] X.env := by rfl) : PE X (.Call (.Name "sorted" p) [.Call (.Name "set" p2) [a] [] q] [] pos) (tSS X.K ta) := by
  refine ⟨fun pins s σ H Q I h => ?_⟩
  refine Call_ (ld_blt I hg hm hb ?_)
  refine PyProof.Rows.callWith_builtin1 (PyProof.Rows.args_cons ?_ rfl) rfl rfl
  refine Call_ (ld_blt I hg2 hm2 hb2 ?_)
  refine PyProof.Rows.callWith_type1 (PyProof.Rows.args_cons (thn (ha.run pins s σ H _ I h) fun v s1 ⟨x, H1, I1, r1, q1⟩ => PyProof.Rows.args_nil ?_) na) na rfl
  rcases q1 with ⟨l, ns, rfl, hq, hl, q1⟩ | ⟨l, xs, rfl, hq, hl, q1⟩
  · cases r1
    obtain ⟨its, r, pl, hz⟩ := I1.list hq
    have are := r.ints
    have hlen : its.toArray.size = ns.length := by rw [List.size_toArray, ← r.length, List.length_map]
    refine sg_call (D := knI X.prog X.w) ns (I1.ok.hd hc) pl.isList hlen hl (fun i v hv => ?_) fun h1 tk g1 k1 => PyProof.Rows.args_nil ?_
    · obtain ⟨t, e⟩ := IntsAre.int_at are i v (by simpa using hv)
      have hi : i < ns.length := by rw [← hlen]; exact (Array.getElem?_eq_some_iff.mp hv).1
      refine ⟨ns[i], List.getElem?_eq_getElem hi, ?_⟩
      rw [e, List.getD_eq_getElem?_getD, List.getElem?_eq_getElem hi]
      exact intKind_is _ _ _ _
    · have I2 : Inv X pins σ H1 { s1 with heap := h1, toks := tk } := I1.kept fun b o e => k1 b o e
      refine sg_sorted (D := knI X.prog X.w) (Are := IntsAre) (Srt := fun zs => zs.Pairwise (· ≤ ·)) g1 (I2.ok.hd hc) hl (fun vs => intsAre_map vs) (fun g a b f => list_sort_treeAny g a b f) fun s2 p out c zs k g o hp hg hi nd hm hs hl2 => ?_
      have hn : H1 p = none := I2.hok.fresh hp
      have hsz : (zs.map V.int).length ≤ sizeLine := by have h1 := hl.lt nd (fun k hk => (hm k).mp hk); rw [List.length_map, sizeLine_eq]; unfold scanBound at h1; omega
      exact ⟨.ref p, upd H1 p (.lst (zs.map V.int)), I2.call' (ch := []) o (Un.laid k hp hn) (I2.hok.laid (o := .lst (zs.map V.int)) k hp ⟨hsz, out.toList, c, vals_of_ints hi, hg⟩) (by rw [g]; exact I2.bare) (fun _ z => nomatch z), rfl, q1 zs p nd hm hs hl2 hn⟩
  · cases r1
    obtain ⟨its, r, pl, hz⟩ := I1.list hq
    have are := r.strs
    have hlen : its.toArray.size = xs.length := by rw [List.size_toArray, ← r.length, List.length_map]
    refine sg_call (D := knS X.prog X.w) xs (I1.ok.hd hc) pl.isList hlen hl (fun i v hv => ?_) fun h1 tk g1 k1 => PyProof.Rows.args_nil ?_
    · obtain ⟨k, t, e1, e⟩ := strs_ix are i v (by simpa using hv)
      exact ⟨k, e1, by rw [e]; exact strKind_is _ _ _ _⟩
    · have I2 : Inv X pins σ H1 { s1 with heap := h1, toks := tk } := I1.kept fun b o e => k1 b o e
      refine sg_sorted (D := knS X.prog X.w) (Are := StrsAre) (Srt := fun zs => sortedS zs = true) g1 (I2.ok.hd hc) hl (fun vs => strsAre_map vs) (fun g a b f => sort_strs g a b f) fun s2 p out c zs k g o hp hg hi nd hm hs hl2 => ?_
      have hn : H1 p = none := I2.hok.fresh hp
      have hsz : (zs.map V.str).length ≤ sizeLine := by have h1 := hl.lt nd (fun k hk => (hm k).mp hk); rw [List.length_map, sizeLine_eq]; unfold scanBound at h1; omega
      exact ⟨.ref p, upd H1 p (.lst (zs.map V.str)), I2.call' (ch := []) o (Un.laid k hp hn) (I2.hok.laid (o := .lst (zs.map V.str)) k hp ⟨hsz, out.toList, c, vals_of_strs hi, hg⟩) (by rw [g]; exact I2.bare) (fun _ z => nomatch z), rfl, q1 zs p nd hm hs hl2 hn⟩
end FlSet
set_option Elab.async false
set_option linter.all false
set_option maxRecDepth 100000
namespace Fl
open PySem PySem.Spec PyProof.Rows L2
/-! ### sorted(set(l)) as a function -/
theorem strict_unique {α : Type} {lt : α → α → Prop} (irr : ∀ a, ¬ lt a a) (tr : ∀ {a b c}, lt a b → lt b c → lt a c) : ∀ xs ys : List α, xs.Pairwise lt → ys.Pairwise lt → (∀ k, k ∈ xs ↔ k ∈ ys) → xs = ys
  | [], [], _, _, _ => rfl
  | [], y :: ys, _, _, h => absurd ((h y).mpr List.mem_cons_self) (by simp)
  | x :: xs, [], _, _, h => absurd ((h x).mp List.mem_cons_self) (by simp)
  | x :: xs, y :: ys, h1, h2, h => by
    obtain ⟨a1, a2⟩ := List.pairwise_cons.mp h1
    obtain ⟨b1, b2⟩ := List.pairwise_cons.mp h2
    have e : x = y := by
      rcases List.mem_cons.mp ((h x).mp List.mem_cons_self) with z | z
      · exact z
      · rcases List.mem_cons.mp ((h y).mpr List.mem_cons_self) with z2 | z2
        · exact z2.symm
        · exact absurd (tr (a1 y z2) (b1 x z)) (irr x)
    subst e
    rw [strict_unique irr tr xs ys a2 b2 fun k => ?_]
    constructor
    · intro z
      rcases List.mem_cons.mp ((h k).mp (List.mem_cons_of_mem _ z)) with q | q
      · subst q; exact absurd (a1 k z) (irr k)
      · exact q
    · intro z
      rcases List.mem_cons.mp ((h k).mpr (List.mem_cons_of_mem _ z)) with q | q
      · subst q; exact absurd (b1 k z) (irr k)
      · exact q
open Classical in
noncomputable def srt {α : Type} (lt : α → α → Prop) (ns : List α) : List α := if h : ∃ zs : List α, zs.Pairwise lt ∧ ∀ k, k ∈ zs ↔ k ∈ ns then Classical.choose h else []
theorem srt_eq {α : Type} {lt : α → α → Prop} (irr : ∀ a, ¬ lt a a) (tr : ∀ {a b c}, lt a b → lt b c → lt a c) {ns zs : List α} (h1 : zs.Pairwise lt) (h2 : ∀ k, k ∈ zs ↔ k ∈ ns) : srt lt ns = zs := by
  have h : ∃ zs : List α, zs.Pairwise lt ∧ ∀ k, k ∈ zs ↔ k ∈ ns := ⟨zs, h1, h2⟩
  unfold srt
  rw [dif_pos h]
  obtain ⟨q1, q2⟩ := Classical.choose_spec h
  exact strict_unique irr tr _ _ q1 h1 fun k => (q2 k).trans (h2 k).symm
noncomputable def srtI (ns : List Int) : List Int := srt (· < ·) ns
noncomputable def srtS (xs : List (List Nat)) : List (List Nat) := srt (· < ·) xs
theorem srtI_eq {ns zs : List Int} (h1 : zs.Pairwise (· < ·)) (h2 : ∀ k, k ∈ zs ↔ k ∈ ns) : srtI ns = zs := srt_eq (fun a => Int.lt_irrefl a) (fun h1 h2 => Int.lt_trans h1 h2) h1 h2
theorem srtS_eq {ns zs : List (List Nat)} (h1 : zs.Pairwise (· < ·)) (h2 : ∀ k, k ∈ zs ↔ k ∈ ns) : srtS ns = zs := srt_eq (fun a => List.lt_irrefl a) (fun h1 h2 => List.lt_trans h1 h2) h1 h2
open Classical in
noncomputable def ssF (fa : EF) : EF := fun δ s => (fa δ s).bind fun x s1 => match view s1 x with
  | .lst ds => match intsD ds with
    | some ns => if FlSet.Few ns then .val (.lst ((srtI ns).map .int)) s1 else .stuck
    | none => match strsD ds with
      | some xs => if FlSet.Few xs then .val (.lst ((srtS xs).map .str)) s1 else .stuck
      | none => .stuck
  | _ => .stuck
theorem rising_tail : ∀ {p : Str} {r : List Str}, risingS p r = true → ∀ y ∈ r, ¬ (y.cps.toList < p.cps.toList)
  | p, [], _, y, h => nomatch h
  | p, x :: r, h, y, hy => by
    simp only [risingS, Bool.and_eq_true, Bool.not_eq_true', ltCps_eq, decide_eq_false_iff_not] at h
    rcases List.mem_cons.mp hy with z | z
    · subst z; exact h.1
    · intro q
      have := rising_tail h.2 y z
      rcases List.le_iff_lt_or_eq.mp (List.not_lt.mp h.1) with e | e
      · exact this (List.lt_trans q e)
      · exact this (e ▸ q)
theorem few_map {α β : Type} {f : α → β} {xs : List α} (h : FlSet.Few xs) : FlSet.Few (xs.map f) := by
  obtain ⟨U, a, b⟩ := h
  refine ⟨U.map f, by rw [List.length_map]; exact a, fun k hk => ?_⟩
  obtain ⟨z, hz, rfl⟩ := List.mem_map.mp hk
  exact List.mem_map.mpr ⟨z, b z hz, rfl⟩
theorem few_len {α : Type} {xs : List α} (h : xs.length ≤ 4000) : FlSet.Few xs := FlSet.Few.of_len (by unfold scanBound; omega)
theorem sortedS_strict : ∀ {zs : List Str}, sortedS zs = true → zs.Nodup → (zs.map fun z => z.cps.toList).Pairwise (· < ·)
  | [], _, _ => .nil
  | x :: r, h, nd => by
    obtain ⟨n1, n2⟩ := List.nodup_cons.mp nd
    rw [List.map_cons, List.pairwise_cons]
    have hr : sortedS r = true := by
      cases r with
      | nil => rfl
      | cons y r =>
        simp only [sortedS, risingS, Bool.and_eq_true] at h ⊢
        exact h.2
    refine ⟨fun z hz => ?_, sortedS_strict hr n2⟩
    obtain ⟨y, hy, rfl⟩ := List.mem_map.mp hz
    have h1 := rising_tail h y hy
    rcases List.le_iff_lt_or_eq.mp (List.not_lt.mp h1) with q | q
    · exact q
    · have : x = y := by
        cases x; cases y
        exact congrArg Str.mk (Array.toList_inj.mp q)
      exact absurd (this ▸ hy) n1
section
variable {X : Cx} {cl : Nat → Value} {W : WX} {a : Expr} {fa : EF}
theorem je_ss {p p2 q pos : Pos} (hg : Gl X "sorted") (hm : X.mg "sorted" = none) (hg2 : Gl X "set") (hm2 : X.mg "set" = none) (ha : JE X cl W a fa) (hc : X.calm = true := by rfl)
    (na : starEach [a] X.env = (false, eval a X.env) :: starEach [] X.env := by rfl) : JE X cl W (.Call (.Name "sorted" p) [.Call (.Name "set" p2) [a] [] q] [] pos) (ssF fa) :=
  (FlSet.pe_ss hg hm hg2 hm2 bb_sorted bb_set ha hc na).imp fun σ H Q h => by
  obtain ⟨M, ι, δ, s, C, S, P⟩ := h
  refine ⟨M, ι, δ, s, C, S, Post.mono (Post.bind (Rep X.K) P) fun u H1 m => ?_⟩
  obtain ⟨M1, ι1, x, s1, t1, C1, r1, P1⟩ := m.ex
  have sx := C1.sees r1
  split at P1
  · rename_i ds e1
    rw [e1] at sx
    obtain ⟨l, vs, rfl, g1, g2⟩ := sx
    split at P1
    · rename_i ns hn
      split at P1
      · rename_i hl
        have hv := ints_v g2 hn
        refine .inl ⟨l, ns, rfl, by rw [← hv]; exact SqL.of g1, hl, fun zs p nd hm hs hlz hp => ?_⟩
        have hst : zs.Pairwise (· < ·) := (List.Pairwise.and hs nd).imp fun {a b} z => by
          have h1 : a ≤ b := z.1
          have h2 : a ≠ b := z.2
          omega
        rw [srtI_eq hst hm] at P1
        exact Post.laidL P1 C1 (RepL.ints zs) hp
      · exact P1.elim
    · split at P1
      · rename_i xs hn
        split at P1
        · rename_i hl
          obtain ⟨q1, q2⟩ := strs_v g2 hn
          have e2 : vs = (xs.map fun cs => (⟨cs.toArray⟩ : Str)).map V.str := by rw [q1, List.map_map]; rfl
          refine .inr ⟨l, xs.map fun cs => ⟨cs.toArray⟩, rfl, by rw [← e2]; exact SqL.of g1, few_map hl, fun zs p nd hm hs hlz hp => ?_⟩
          have hst := sortedS_strict hs nd
          have hmm : ∀ k, k ∈ (zs.map fun z => z.cps.toList) ↔ k ∈ xs := fun k => by
            rw [List.mem_map]
            constructor
            · rintro ⟨z, hz, rfl⟩
              obtain ⟨c, hc, rfl⟩ := List.mem_map.mp ((hm z).mp hz)
              exact hc
            · intro hk
              exact ⟨⟨k.toArray⟩, (hm _).mpr (List.mem_map.mpr ⟨k, hk, rfl⟩), rfl⟩
          rw [srtS_eq hst hmm] at P1
          have hrep : RepL X.K M1 ((zs.map fun z => z.cps.toList).map D.str) (zs.map V.str) := by
            have key : ∀ ws : List Str, (∀ z ∈ ws, z ∈ zs) → RepL X.K M1 ((ws.map fun z => z.cps.toList).map D.str) (ws.map V.str) := by
              intro ws
              induction ws with
              | nil => intro _; exact .nil
              | cons z ws ih =>
                intro hw
                refine .cons ?_ (ih fun y hy => hw y (by simp [hy]))
                unfold RepF
                exact ⟨rfl, q2 _ ((hmm _).mp (List.mem_map.mpr ⟨z, hw z (by simp), rfl⟩))⟩
            exact key zs fun _ h => h
          exact Post.laidL P1 C1 hrep hp
        · exact P1.elim
      · exact P1.elim
  · exact P1.elim
/-- list(range(a, b)) -/
def lrF (fa fb : EF) : EF := fun δ s => (fa δ s).bind fun x s1 => (fb δ s1).bind fun y s2 => match x, y with
  | .int i, .int j => if (sm i = true ∧ sm j = true) ∧ (j - i).toNat ≤ 16000000 then .val (.lst (upI i (j - i).toNat)) s2 else .stuck
  | _, _ => .stuck
theorem rgV_rep {K : PySem.W.Frag} {M : Hp} (i j : Int) : RepL K M (upI i (j - i).toNat) (rgV i j) := by
  have h := RepL.ints (K := K) (M := M) ((List.range (j - i).toNat).map fun (k : Nat) => i + (k : Int))
  rw [List.map_map, List.map_map] at h
  exact h
theorem je_listRg {b : Expr} {fb : EF} {p p2 q pos : Pos} (hg : Gl X "list") (hm : X.mg "list" = none) (hg2 : Gl X "range") (hm2 : X.mg "range" = none) (ha : JE X cl W a fa) (hb : JE X cl W b fb) (hc : X.calm = true := by rfl)
    (na : starEach [a, b] X.env = (false, eval a X.env) :: starEach [b] X.env := by rfl) (nb : starEach [b] X.env = (false, eval b X.env) :: starEach [] X.env := by rfl) (hp : (backTo pos (starEach [b] X.env)).any (·.1) = false := by rfl)
    (nc : starEach [.Call (.Name "range" p2) [a, b] [] pos] X.env = (false, eval (.Call (.Name "range" p2) [a, b] [] pos) X.env) :: starEach [] X.env := by rfl) : JE X cl W (.Call (.Name "list" p) [.Call (.Name "range" p2) [a, b] [] pos] [] q) (lrF fa fb) :=
  (pe_listRg hc hg hm (prg_2 hg2 hm2 ha hb na nb hp) nc).imp fun σ H Q h => by
  obtain ⟨M, ι, δ, s, C, S, P⟩ := h
  refine ⟨M, ι, δ, s, C, S, Post.mono (Post.bind (Rep X.K) P) fun u H1 m => ?_⟩
  obtain ⟨M1, ι1, x, s1, t1, C1, r1, P1⟩ := m.ex
  refine ⟨M1, ι1, δ, s1, C1, S.step t1, Post.mono (Post.bind (Rep X.K) P1) fun v H2 m => ?_⟩
  obtain ⟨M2, ι2, y, s2, t2, C2, r2, P2⟩ := m.ex
  split at P2
  · rename_i i j
    split at P2
    · rename_i hc
      have h1 := sm_lt hc.1.1
      have h2 := sm_lt hc.1.2
      refine ⟨i, j, (r1.step t2).int, r2.int, ⟨h1.1, h1.2, h2.1, h2.2, by have := hc.2; omega⟩, fun p hp => Post.laidL P2 C2 (rgV_rep i j) hp⟩
    · exact P2.elim
  · exact P2.elim
end
end Fl
set_option Elab.async false
set_option linter.all false
set_option maxRecDepth 100000
namespace Fl
open PySem PySem.Spec PyProof.Rows L2
/-! ### more on lists of one's own: pop, insert, list(x), x + y, x[::-1] -/
section
variable {K : PySem.W.Frag} {M : Hp} {ι : List Addr}
theorem Reps.erase {ds : List D} {vs : List V} (h : Reps K M ι ds vs) : ∀ i : Nat, Reps K M ι (ds.eraseIdx i) (vs.eraseIdx i) := by
  induction h with
  | nil => exact fun _ => .nil
  | cons a b ih =>
    intro i
    cases i with
    | zero => exact b
    | succ i => exact .cons a (ih i)
theorem Reps.take {ds : List D} {vs : List V} (h : Reps K M ι ds vs) : ∀ i : Nat, Reps K M ι (ds.take i) (vs.take i) := by
  induction h with
  | nil => intro i; simp; exact .nil
  | cons a b ih =>
    intro i
    cases i with
    | zero => exact .nil
    | succ i => exact .cons a (ih i)
theorem Reps.drop {ds : List D} {vs : List V} (h : Reps K M ι ds vs) : ∀ i : Nat, Reps K M ι (ds.drop i) (vs.drop i) := by
  induction h with
  | nil => intro i; simp; exact .nil
  | cons a b ih =>
    intro i
    cases i with
    | zero => exact .cons a b
    | succ i => exact ih i
theorem Reps.rev {ds : List D} {vs : List V} (h : Reps K M ι ds vs) : Reps K M ι ds.reverse vs.reverse := by
  induction h with
  | nil => exact .nil
  | cons a b ih =>
    rw [List.reverse_cons, List.reverse_cons]
    exact ih.append (.cons a .nil)
end
def popG (s : Sto) (x : D) : List D → O D
  | [.int i] => match x with
    | .ob k => match s[k]? with
      | some (.lst ds) => match ds[i.toNat]? with
        | some y => if 0 ≤ i ∧ ds.length ≤ 16000000 then .val y (s.set k (.lst (ds.eraseIdx i.toNat))) else .stuck
        | none => .stuck
      | _ => .stuck
    | _ => .stuck
  | _ => .stuck
theorem ok_popAt {K : PySem.W.Frag} : OkM K "list" rPopAt popG := fun Wx M ι s H x u xs us Q C rx rs P => by
  unfold popG at P
  split at P
  · rename_i i
    split at P
    · rename_i k
      split at P
      · rename_i ds e
        split at P
        · rename_i y hy
          split at P
          · rename_i hc
            obtain ⟨w, rfl, rd⟩ := rs.one
            obtain ⟨a, rfl, hk⟩ := rx
            obtain ⟨hM, vs, h1, r1⟩ := C.obs k a _ hk e
            obtain ⟨z, h2, h3⟩ := r1.get hy
            have hlt : i.toNat < ds.length := (List.getElem?_eq_some_iff.mp hy).1
            have hix : seqIndex? i vs.length = some i.toNat := by
              rw [r1.length]
              unfold seqIndex?
              simp
              omega
            obtain ⟨C2, t2⟩ := C.put (o := .lst (vs.eraseIdx i.toNat)) (u := .lst (ds.eraseIdx i.toNat)) hk hM ⟨hM, _, upd_same, r1.erase _⟩
            exact ⟨a, vs, i, i.toNat, z, rfl, by rw [rd.int], h1, by omega, by omega, hix, h2, P _ _ _ _ t2 C2 (h3.step t2)⟩
          · exact P.elim
        · exact P.elim
      · exact P.elim
    · exact P.elim
  · exact P.elim
def pop0G (s : Sto) (x : D) : List D → O D
  | [] => match x with
    | .ob k => match s[k]? with
      | some (.lst ds) => match ds[ds.length - 1]? with
        | some y => .val y (s.set k (.lst ds.dropLast))
        | none => .stuck
      | _ => .stuck
    | _ => .stuck
  | _ => .stuck
theorem ok_pop0 {K : PySem.W.Frag} : OkM K "list" rPop pop0G := fun Wx M ι s H x u xs us Q C rx rs P => by
  unfold pop0G at P
  split at P
  · split at P
    · rename_i k
      split at P
      · rename_i ds e
        split at P
        · rename_i y hy
          cases rs
          obtain ⟨a, rfl, hk⟩ := rx
          obtain ⟨hM, vs, h1, r1⟩ := C.obs k a _ hk e
          obtain ⟨z, h2, h3⟩ := r1.get hy
          have hl := r1.length
          have r2 : Reps K M ι ds.dropLast vs.dropLast := by
            rw [List.dropLast_eq_take, List.dropLast_eq_take, hl]; exact r1.take _
          obtain ⟨C2, t2⟩ := C.put (o := .lst vs.dropLast) (u := .lst ds.dropLast) hk hM ⟨hM, _, upd_same, r2⟩
          exact ⟨a, vs, z, rfl, rfl, h1, by rw [hl]; exact h2, P _ _ _ _ t2 C2 (h3.step t2)⟩
        · exact P.elim
      · exact P.elim
    · exact P.elim
  · exact P.elim
def insG (s : Sto) (x : D) : List D → O D
  | [.int i, y] => match x with
    | .ob k => match s[k]? with
      | some (.lst ds) => if (0 ≤ i ∧ i ≤ 1000000) ∧ ds.length < 16000000 then .val .non (s.set k (.lst (ds.take i.toNat ++ [y] ++ ds.drop i.toNat))) else .stuck
      | _ => .stuck
    | _ => .stuck
  | _ => .stuck
def rIns : V → List V → Hp → VK → Prop := fun x vs H Q => ∃ (l : Addr) (xs : List V) (i : Int) (y : V), x = .ref l ∧ vs = [.int i, y] ∧ H l = some (.lst xs) ∧ xs.length < sizeLine ∧ 0 ≤ i ∧ i < 2 ^ 63 ∧ Q .non (upd H l (.lst (xs.take i.toNat ++ [y] ++ xs.drop i.toNat)))
theorem mt_ins {X : Cx} : MtR X "list.insert" rIns := mt_insert
theorem ok_ins {K : PySem.W.Frag} : OkM K "list" rIns insG := fun Wx M ι s H x u xs us Q C rx rs P => by
  unfold insG at P
  split at P
  · rename_i i y
    split at P
    · rename_i k
      split at P
      · rename_i ds e
        split at P
        · rename_i hc
          obtain ⟨w, z, rfl, rd, rz⟩ := rs.two
          obtain ⟨a, rfl, hk⟩ := rx
          obtain ⟨hM, vs, h1, r1⟩ := C.obs k a _ hk e
          obtain ⟨C2, t2⟩ := C.put (o := .lst (vs.take i.toNat ++ [z] ++ vs.drop i.toNat)) (u := .lst (ds.take i.toNat ++ [y] ++ ds.drop i.toNat)) hk hM ⟨hM, _, upd_same, ((r1.take _).append (.cons rz .nil)).append (r1.drop _)⟩
          exact ⟨a, vs, i, z, rfl, by rw [rd.int], h1, by rw [r1.length]; exact lim_lt hc.2, hc.1.1, by omega, P _ _ _ _ t2 C2 rf_non⟩
        · exact P.elim
      · exact P.elim
    · exact P.elim
  · exact P.elim
/-- list(x), a list of one's own -/
def listO (s : Sto) : List D → O D
  | [x] => match view s x with
    | .lst ds => .val (.ob s.length) (s ++ [.lst ds])
    | .tup ds => .val (.ob s.length) (s ++ [.lst ds])
    | _ => .stuck
  | _ => .stuck
theorem ok_listO {K : PySem.W.Frag} : OkN K (rListU K) listO := fun Wx M ι s H xs us Q C r P => by
  unfold listO at P
  split at P
  · obtain ⟨u, rfl, rx⟩ := r.one
    have s1 := C.sees rx
    split at P
    · rename_i ds e
      rw [e] at s1
      obtain ⟨a, vs, rfl, h1, r1⟩ := s1
      exact ⟨a, vs, rfl, .inl (SqL.of h1), fun l hl => Post.laidO P C (Reps.of r1) hl⟩
    · rename_i ds e
      rw [e] at s1
      obtain ⟨a, vs, rfl, h1, r1⟩ := s1.tup
      exact ⟨a, vs, rfl, .inr (Ex.t C.sub h1.sq), fun l hl => Post.laidO P C (Reps.of r1) hl⟩
    · exact P.elim
  · exact P.elim
/-- x + y of lists, a list of one's own -/
def addO : Op2 := fun s x y => match view s x, view s y with
  | .lst a, .lst b => if a.length + b.length ≤ 16000000 then .val (.ob s.length) (s ++ [.lst (a ++ b)]) else .stuck
  | _, _ => .stuck
theorem ok_addO {K : PySem.W.Frag} : Ok2 K (rAddU K) addO := fun Wx M ι s H x y u v Q C rx ry P => by
  have s1 := C.sees rx
  have s2 := C.sees ry
  unfold addO at P
  split at P
  · rename_i a b e1 e2
    rw [e1] at s1; rw [e2] at s2
    split at P
    · rename_i hl
      obtain ⟨p, vs, rfl, h1, r1⟩ := s1
      obtain ⟨q, us, rfl, h2, r2⟩ := s2
      exact .inr (.inl ⟨p, q, vs, us, rfl, rfl, h1, h2, by rw [r1.length, r2.length]; exact lim_le hl, fun l hl => Post.laidO P C (Reps.of (r1.append r2)) hl⟩)
    · exact P.elim
  · exact P.elim
section
variable {X : Cx} {cl : Nat → Value} {W : WX} {e : Expr} {fa : EF}
/-- x[::-1] of a list, a list of one's own -/
def revO (fa : EF) : EF := fun δ s => (fa δ s).bind fun x s1 => match x with
  | .lst ds => .val (.ob s1.length) (s1 ++ [.lst ds.reverse])
  | .ob k => match s1[k]? with
    | some (.lst ds) => .val (.ob s1.length) (s1 ++ [.lst ds.reverse])
    | _ => .stuck
  | _ => .stuck
theorem je_revO {k : Nat} {p1 p2 p3 pos : Pos} (he : JE X cl W e fa) : JE X cl W (.Subscript e (.Slice none none (some (.UnaryOp .USub (.Constant (.int 1) k p1) p2)) p3) pos) (revO fa) := (pe_revL he).imp fun σ H Q h => by
  obtain ⟨M, ι, δ, s, C, S, P⟩ := h
  refine ⟨M, ι, δ, s, C, S, Post.mono (Post.bind (Rep X.K) P) fun u H1 m => ?_⟩
  obtain ⟨M1, ι1, x, s1, t1, C1, r1, P1⟩ := m.ex
  split at P1
  · rename_i ds
    obtain ⟨a, vs, rfl, h1, r2⟩ := r1.lst
    exact ⟨a, vs, rfl, SqL.of (C1.sub _ _ h1), fun p hp => Post.laidO P1 C1 (Reps.of r2).rev hp⟩
  · rename_i k
    split at P1
    · rename_i ds e
      obtain ⟨a, rfl, hk⟩ := r1
      obtain ⟨hM, vs, h1, r2⟩ := C1.obs k a _ hk e
      exact ⟨a, vs, rfl, SqL.of h1, fun p hp => Post.laidO P1 C1 r2.rev hp⟩
    · exact P1.elim
  · exact P1.elim
end
end Fl
set_option Elab.async false
set_option linter.all false
set_option maxRecDepth 100000
namespace Fl
open PySem PySem.Spec PyProof.Rows L2
/-! ### a head with tuples of texts among the module's constants -/
abbrev TbD : Type := List (Str × List (List Nat))
def obsT (fa : List He.Fa) (fn : List He.DefD) (tb : TbD) (K : PySem.W.Frag) : He.AlD × Bool := (He.obsD fa fn K, tb.all fun t => He.tupB K t.1 (t.2.map fun c => He.Dv.str ⟨c.toArray⟩))
def SaysT (fa : List He.Fa) (fn : List He.DefD) (tb : TbD) (K : PySem.W.Frag) : Prop := obsT fa fn tb K = (He.valD fn, true)
def obsTG (n : Nat) (fa : List He.Fa) (fn : List He.DefD) (tb : TbD) (g : Addr → Option Obj) : He.AlD × Bool := obsT fa fn tb (He.frG g (He.asD g n))
def hookT (n : Nat) (fa : List He.Fa) (fn : List He.DefD) (tb : TbD) : PySem.W.Hook where
  α := He.AlD × Bool
  obs := fun s => obsTG n fa fn tb s.heap.get?
  val := fun _ => (He.valD fn, true)
  says := fun _ h => ∃ K : PySem.W.Frag, K.In h ∧ SaysT fa fn tb K
  of := fun _ _ e => ⟨_, He.frG_in, e⟩
  keeps := fun _ _ _ ⟨K, hK, c⟩ k => ⟨K, PySem.W.Frag.In.keeps hK k, c⟩
theorem obsTG_eq {n : Nat} {fa : List He.Fa} {fn : List He.DefD} {tb : TbD} {g : Addr → Option Obj} {s : Shared} (h : ∀ a, g a = s.heap.get? a) : obsTG n fa fn tb g = (hookT n fa fn tb).obs s := by
  have e : g = s.heap.get? := funext h
  rw [e]; rfl
theorem SaysT.d {fa : List He.Fa} {fn : List He.DefD} {tb : TbD} {K : PySem.W.Frag} (c : SaysT fa fn tb K) : He.SaysD fa fn K := congrArg Prod.fst c
theorem SaysT.tup {fa : List He.Fa} {fn : List He.DefD} {tb : TbD} {K : PySem.W.Frag} (c : SaysT fa fn tb K) (i : Nat) {t : Str × List (List Nat)} (h : tb[i]? = some t := by rfl) : KT K (He.ga K t.1) (t.2.map fun c => V.str ⟨c.toArray⟩) := by
  have c2 : (tb.all fun t => He.tupB K t.1 (t.2.map fun c => He.Dv.str ⟨c.toArray⟩)) = true := congrArg Prod.snd c
  have h1 := He.tupB_ok (List.all_eq_true.mp c2 t (List.mem_of_getElem? h)) (fun _ => none)
  rw [List.map_map] at h1
  rcases h1 with h1 | h1
  · rcases h1 with h1 | ⟨o, h1⟩ <;> cases h1
  · obtain ⟨o, its, n, q1, q2, q3, q4, q5⟩ := h1
    exact ⟨o, its, n, q1, q2, q3, q4, q5⟩
section
variable {X : Cx} {cl : Nat → Value} {W : WX}
theorem je_globT {x : Str} {cs : List (List Nat)} {pos : Pos} (hm : ∃ a, X.mg x = some (.ref a) ∧ KT X.K a (cs.map fun c => V.str ⟨c.toArray⟩)) (hg : Gl X x) (ok : (cs.all okS) = true := by decide) (hd : (x == ("__debug__" : Str)) = false := by decide) : JE X cl W (.Name x pos) (cF (.tup (cs.map D.str))) := by
  obtain ⟨a, h1, h2⟩ := hm
  refine je_glob (v := .ref a) hg h1 rfl (fun M ι => Rep.of ?_) hd
  unfold RepF
  refine ⟨a, _, rfl, .inr h2, ?_⟩
  have key : ∀ cs : List (List Nat), (cs.all okS) = true → RepL X.K M (cs.map D.str) (cs.map fun c => V.str ⟨c.toArray⟩) := by
    intro cs
    induction cs with
    | nil => intro _; exact .nil
    | cons c cs ih =>
      intro h
      simp only [List.all_cons, Bool.and_eq_true] at h
      refine .cons ?_ (ih h.2)
      unfold RepF
      exact ⟨rfl, h.1⟩
  exact key cs ok
end
end Fl
set_option Elab.async false
set_option linter.all false
set_option maxRecDepth 100000
/-! objects of the program's classes: attributes, methods, making; own exceptions: raise, try. -/
namespace Fl
open PySem PySem.Spec PyProof.Rows L2
theorem zip_lookup {f : Str} {v : V} : ∀ {ns : List Str} {vs : List V} {i : Nat}, ns.Nodup → ns[i]? = some f → vs[i]? = some v → (ns.zip vs).lookup f = some v
  | [], _, _, _, h, _ => by simp at h
  | n :: ns, [], _, _, _, h => by simp at h
  | n :: ns, u :: vs, 0, _, h1, h2 => by
    simp at h1 h2; subst h1 h2
    simp [List.lookup]
  | n :: ns, u :: vs, i + 1, hn, h1, h2 => by
    simp at h1 h2
    have hn' := List.nodup_cons.mp hn
    have hne : f ≠ n := fun e => hn'.1 (e ▸ List.mem_of_getElem? h1)
    have hb : (f == n) = false := beq_eq_false_iff_ne.mpr hne
    simp only [List.zip_cons_cons, List.lookup, hb]
    exact zip_lookup hn'.2 h1 h2
theorem zip_none {f : Str} : ∀ {ns : List Str} {vs : List V}, f ∉ ns → (ns.zip vs).lookup f = none
  | [], _, _ => rfl
  | n :: ns, [], _ => rfl
  | n :: ns, u :: vs, h => by
    simp at h
    have hb : (f == n) = false := beq_eq_false_iff_ne.mpr h.1
    simp only [List.zip_cons_cons, List.lookup, hb]
    exact zip_none h.2
theorem zip_put {f : Str} {v : V} : ∀ {ns : List Str} {vs : List V} {i : Nat}, ns.Nodup → ns[i]? = some f → i < vs.length → putF f v (ns.zip vs) = ns.zip (vs.set i v)
  | [], _, _, _, h, _ => by simp at h
  | n :: ns, [], _, _, _, h => by simp at h
  | n :: ns, u :: vs, 0, _, h1, _ => by
    simp at h1; subst h1
    simp [putF]
  | n :: ns, u :: vs, i + 1, hn, h1, h2 => by
    simp at h1 h2
    have hn' := List.nodup_cons.mp hn
    have hne : n ≠ f := fun e => hn'.1 (e.symm ▸ List.mem_of_getElem? h1)
    simp only [List.zip_cons_cons, putF, if_neg hne, List.set_cons_succ]
    rw [zip_put hn'.2 h1 h2]
theorem zip_app {f : Str} {v : V} : ∀ {ns : List Str} {vs : List V}, ns.Nodup → ns[vs.length]? = some f → putF f v (ns.zip vs) = ns.zip (vs ++ [v])
  | [], _, _, h => by simp at h
  | n :: ns, [], _, h => by
    simp at h; subst h
    simp [putF]
  | n :: ns, u :: vs, hn, h => by
    simp at h
    have hn' := List.nodup_cons.mp hn
    have hne : n ≠ f := fun e => hn'.1 (e.symm ▸ List.mem_of_getElem? h)
    simp only [List.zip_cons_cons, putF, if_neg hne, List.cons_append]
    rw [zip_app hn'.2 h]
theorem fnames_nd : ∀ c : Nat, (fnames c).Nodup
  | 0 => by decide
  | 1 => by decide
  | _ + 2 => by show (["days", "held", "letters", "earlier"] : List Str).Nodup; decide
theorem fnames_len : ∀ c : Nat, (fnames c).length ≤ 4
  | 0 => by decide
  | 1 => by decide
  | _ + 2 => Nat.le_refl 4
/-- what of the text a class must have -/
structure ClsOk (K : PySem.W.Frag) (c : Nat) : Prop where
  cls : Cls K (He.ga K (cname c))
  na : ∀ f ∈ fnames c, NoAttr K (He.ga K (cname c)) f
/-! ### attributes -/
def fldF (c i : Nat) (fa : EF) : EF := fun δ s => (fa δ s).bind fun x s1 => match x with
  | .ob k => match s1[k]? with
    | some (.ins c' ds) => if c' = c then match ds[i]? with
      | some d => .val d s1
      | none => .stuck
      else .stuck
    | _ => .stuck
  | _ => .stuck
def setF (c i : Nat) (fo fv : EF) : SF := fun δ s => (fv δ s).go δ fun y s1 => (fo δ s1).go δ fun x s2 => match x with
  | .ob k => match s2[k]? with
    | some (.ins c' ds) => if c' = c then
        (if i < ds.length then .nx δ (s2.set k (.ins c (ds.set i y))) else if i = ds.length then .nx δ (s2.set k (.ins c (ds ++ [y]))) else .stuck)
      else .stuck
    | _ => .stuck
  | _ => .stuck
section
variable {X : Cx} {cl : Nat → Value} {W : WX} {e o value : Expr} {f : Str} {pos pos' : Pos} {fa fo fv : EF} {c : Nat}
theorem je_fld (i : Nat) (hc : ClsOk X.K c) (he : JE X cl W e fa) (hf : (fnames c)[i]? = some f := by rfl) (hab : attributeBase e f X.env (eval e X.env) = eval e X.env := by rfl) : JE X cl W (.Attribute e f pos) (fldF c i fa) := (pe_fld he hab).imp fun σ H Q h => by
  obtain ⟨M, ι, δ, s, C, S, P⟩ := h
  refine ⟨M, ι, δ, s, C, S, Post.mono (Post.bind (Rep X.K) P) fun u H1 m => ?_⟩
  obtain ⟨M1, ι1, x, s1, t1, C1, r1, P1⟩ := m.ex
  split at P1
  · rename_i k
    split at P1
    · rename_i c' ds e
      split at P1
      · rename_i hcc
        subst hcc
        split at P1
        · rename_i d hd
          obtain ⟨a, rfl, hk⟩ := r1
          obtain ⟨hM, dx, vs, h1, r2⟩ := C1.obs k a _ hk e
          obtain ⟨v, h2, h3⟩ := r2.get hd
          exact ⟨a, _, dx, _, v, rfl, h1, hc.cls, hc.na f (List.mem_of_getElem? hf), zip_lookup (fnames_nd c') hf h2, P1.now C1 h3⟩
        · exact P1.elim
      · exact P1.elim
    · exact P1.elim
  · exact P1.elim
theorem js_fld (i : Nat) (hc : ClsOk X.K c) (ho : JE X cl W o fo) (hv : JE X cl W value fv) (hf : (fnames c)[i]? = some f := by rfl) (hs : swapsWith value (some (.Attribute o f pos')) pos.line X.env = pure false := by rfl) :
    JS X cl W (.Assign [.Attribute o f pos'] value pos) (setF c i fo fv) := (ps_fld ho hv hs).imp fun D σ H h => by
  obtain ⟨M, ι, δ, s, C, S, P⟩ := h
  refine ⟨M, ι, δ, s, C, S, Post.mono (PostS.go (Rep X.K) S P) fun y H1 m => ?_⟩
  obtain ⟨M1, ι1, yd, s1, t1, C1, ry, P1⟩ := m.ex
  refine ⟨M1, ι1, δ, s1, C1, S.step t1, Post.mono (PostS.go (Rep X.K) (S.step t1) P1) fun x H2 m2 => ?_⟩
  obtain ⟨M2, ι2, xd, s2, t2, C2, rx, P2⟩ := m2.ex
  have ry2 := ry.step t2
  split at P2
  · rename_i k
    split at P2
    · rename_i c' ds e
      split at P2
      · rename_i hcc
        subst hcc
        obtain ⟨a, rfl, hk⟩ := rx
        obtain ⟨hM, dx, vs, h1, r2⟩ := C2.obs k a _ hk e
        have hl : ((fnames c').zip vs).length < 1000 := by
          have := fnames_len c'
          rw [List.length_zip]; omega
        refine ⟨a, _, dx, _, rfl, h1, hc.cls, hc.na f (List.mem_of_getElem? hf), hl, ?_⟩
        split at P2
        · rename_i hi
          rw [zip_put (fnames_nd c') hf (by rw [r2.length]; exact hi)]
          obtain ⟨C3, t3⟩ := C2.put (o := .ins (He.ga X.K (cname c')) dx ((fnames c').zip (vs.set i y))) (u := .ins c' (ds.set i yd)) hk hM ⟨hM, dx, _, upd_same, r2.set ry2 i⟩
          exact P2 _ _ _ _ t3 C3 (((S.step t1).step t2).step t3)
        · split at P2
          · rename_i hi
            rw [zip_app (fnames_nd c') (by rw [r2.length, ← hi]; exact hf)]
            obtain ⟨C3, t3⟩ := C2.put (o := .ins (He.ga X.K (cname c')) dx ((fnames c').zip (vs ++ [y]))) (u := .ins c' (ds ++ [yd])) hk hM ⟨hM, dx, _, upd_same, r2.append (.cons ry2 .nil)⟩
            exact P2 _ _ _ _ t3 C3 (((S.step t1).step t2).step t3)
          · exact P2.elim
      · exact P2.elim
    · exact P2.elim
  · exact P2.elim
end
/-! ### methods -/
def tMethS (C : Addr) (m : Str) (sp : Sp) (E : L2.St → XK) (ta : TE) (t : TA) : TE := fun σ H Q => ta σ H fun x H1 => ∃ a dx fs, x = .ref a ∧ H1 a = some (.ins C dx fs) ∧ fs.lookup m = none ∧ t σ H1 fun vs H2 => sp (x :: vs) H2 Q (E σ)
def tMakeS (C : Addr) (sp : Sp) (E : L2.St → XK) (t : TA) : TE := fun σ H Q => t σ H fun vs H1 => ∀ x dx, H1 x = none → H1 dx = none → dx ≠ x →
  sp (.ref x :: vs) (upd (upd H1 dx (.own x)) x (.ins C dx [])) (fun v H2 => v = .non ∧ Q (.ref x) H2) (E σ)
section
variable {X : Cx} {CX : CXT} {k : Nat} {f C : Addr} {fd : FuncData} {ps : List Str} {sp : Sp} {E : L2.St → XK} {x m : Str} {p pos apos : Pos} {e o : Expr} {es : List Expr} {ta : TE} {t : TA}
theorem pe_methSS {pl : Sem Bool} (he : PE X o ta) (c : Cls X.K C) (hm : Meth X.K C m f) (F : FnOk X.prog X.w X.K X.mg X.base CX k f fd ps sp) (hr : Room k X.A) (hb : Binds X.K fd ps []) (hx : ∀ σ, PassesAt CX X σ (E σ)) (ha : PA X (e :: es) t)
    (hst : starEach (e :: es) X.env = (false, eval e X.env) :: starEach es X.env := by rfl) (hpl : (backTo pos (starEach es X.env)).any (·.1) = false := by rfl)
    (ht : eval (.Call (.Attribute o m apos) (e :: es) [] pos) X.env = (do
      let ov ← eval o X.env
      standAt apos.atName
      let (f, first) ← holding [ov] (getMethod ov m pl)
      callWith pos f first (backTo pos (starEach (e :: es) X.env)) (backToKw pos (keywordEach [] X.env))) := by rfl) :
    PE X (.Call (.Attribute o m apos) (e :: es) [] pos) (tMethS C m sp E ta t) := by
  refine ⟨fun pins s σ H Q I h => ?_⟩
  refine PySem.W.methodCall_KW (pl := pl) (thn (he.run pins s σ H _ I h) fun u s1 ⟨x, H1, I1, rx, a, dx, fs, ex, ea, l, q⟩ => ?_) ht
  subst ex
  obtain rfl : u = Value.ref a := rx
  refine getmeth_ok I1 ea c hm l ?_
  refine PySem.W.callWith_K (first := [.ref a]) (h₀ := X.base) I.ok.mod.kin hm.kp (thn (ha.run pos pins s1 σ H1 _ I1 q) fun us s2 ⟨vs, H2, I2, r, q2⟩ => ⟨I2.kIn, ?_⟩) hst hpl
  exact run_fnS (us := .ref a :: us) (vs := .ref a :: vs) F hr hb (hx σ) I2 (.cons rfl r) q2
theorem pe_methSS0 {pl : Sem Bool} (he : PE X o ta) (c : Cls X.K C) (hm : Meth X.K C m f) (F : FnOk X.prog X.w X.K X.mg X.base CX k f fd ps sp) (hr : Room k X.A) (hb : Binds X.K fd ps []) (hx : ∀ σ, PassesAt CX X σ (E σ))
    (ht : eval (.Call (.Attribute o m apos) [] [] pos) X.env = (do
      let ov ← eval o X.env
      standAt apos.atName
      let (f, first) ← holding [ov] (getMethod ov m pl)
      callWith pos f first (backTo pos (starEach [] X.env)) (backToKw pos (keywordEach [] X.env))) := by rfl) :
    PE X (.Call (.Attribute o m apos) [] [] pos) (tMethS C m sp E ta tNil) := by
  refine ⟨fun pins s σ H Q I h => ?_⟩
  refine PySem.W.methodCall_KW (pl := pl) (thn (he.run pins s σ H _ I h) fun u s1 ⟨x, H1, I1, rx, a, dx, fs, ex, ea, l, q⟩ => ?_) ht
  subst ex
  obtain rfl : u = Value.ref a := rx
  refine getmeth_ok I1 ea c hm l ?_
  exact PySem.W.callWith_K0 (first := [.ref a]) I1.kIn hm.kp (run_fnS (us := [.ref a]) (vs := [.ref a]) F hr hb (hx σ) I1 (.cons rfl .nil) q)
theorem run_makeS {pins : List (Addr × Obj)} {σ : L2.St} {H : Hp} {s : Shared} {Q : VK} {us : List Value} {vs : List V} (M : Mk X.K C f) (F : FnOk X.prog X.w X.K X.mg X.base CX k f fd ps sp) (hr : Room (k + 1) X.A) (hb : Binds X.K fd ps [])
    (hx : PassesAt CX X σ (E σ)) (I : Inv X pins σ H s) (r : Vals vs us)
    (h : ∀ x dx, H x = none → H dx = none → dx ≠ x → sp (.ref x :: vs) (upd (upd H dx (.own x)) x (.ins C dx [])) (fun v H2 => v = .non ∧ Q (.ref x) H2) (E σ)) :
    wpAny (model X.prog X.w) X.A (call (.ref C) us) (EP X pins σ Q) X.xe s := by
  have hq := h (s.heap.objs.size + 1) s.heap.objs.size (I.hok.fresh (Nat.le_succ _)) (I.hok.fresh (Nat.le_refl _)) (Nat.ne_of_lt (Nat.lt_succ_self _))
  have I2 := Inv.made (C := C) I
  have r2 : Vals (V.ref (s.heap.objs.size + 1) :: vs) (Value.ref (s.heap.objs.size + 1) :: us) := .cons rfl r
  have hl : (Value.ref (s.heap.objs.size + 1) :: us).length = ps.length := by
    have e := r2.length
    rw [F.len _ _ _ _ hq] at e
    exact e.symm
  have b := hb _ (Value.ref (s.heap.objs.size + 1) :: us) I2.kIn (by rw [List.append_nil]; exact hl)
  rw [List.append_nil] at b
  refine wpAny_call (make_map (f := f) I.kIn M.makes M.init (beq_iff_eq.mp M.fn) (codeAny_mono (F.run _ X.stack _ _ ⟨Value.ref (s.heap.objs.size + 1) :: us, []⟩ (Value.ref (s.heap.objs.size + 1) :: us) _ _ (E σ) (hr.make C us [])
    (I2.env0.make C us []) b r2 hq) fun r s' hq' => ?_))
  cases r with
  | error e => exact hx pins _ _ e s' I2 hq'
  | ok fl =>
    cases fl with
    | ret u =>
      obtain ⟨v, H', I3, rv, ev, q3⟩ := I2.after hq'
      subst ev
      exact ⟨rv, ⟨V.ref (s.heap.objs.size + 1), H', I3, rfl, q3⟩⟩
    | next => exact False.elim hq'
    | brk => exact False.elim hq'
    | cont => exact False.elim hq'
theorem pe_makeS (M : Mk X.K C f) (F : FnOk X.prog X.w X.K X.mg X.base CX k f fd ps sp) (hr : Room (k + 1) X.A) (hg : Gl X x) (hm : X.mg x = some (.ref C)) (hb : Binds X.K fd ps []) (hx : ∀ σ, PassesAt CX X σ (E σ))
    (ha : PA X (e :: es) t) (hdb : (x == ("__debug__" : Str)) = false := by decide) (he : starEach (e :: es) X.env = (false, eval e X.env) :: starEach es X.env := by rfl) (hpl : (backTo pos (starEach es X.env)).any (·.1) = false := by rfl) :
    PE X (.Call (.Name x p) (e :: es) [] pos) (tMakeS C sp E t) := by
  refine ⟨fun pins s σ H Q I h => ?_⟩
  refine wpAny_Call_Name_kw (ld_glob I hg hm ?_ hdb)
  refine PySem.W.callWith_K (h₀ := X.base) I.ok.mod.kin M.kp (thn (ha.run pos pins s σ H _ I h) fun us s1 ⟨vs, H1, I1, r, q⟩ => ⟨I1.kIn, ?_⟩) he hpl
  exact run_makeS M F hr hb (hx σ) I1 r q
end
section
variable {P : Program} {w : World} {K : PySem.W.Frag} {mg : Str → Option Value} {base : Heap} {cl : Nat → Value}
/-- a method of the class c -/
structure JMt (P : Program) (w : World) (K : PySem.W.Frag) (mg : Str → Option Value) (base : Heap) (cl : Nat → Value) (k c : Nat) (m : Str) (n : Nat) (F : FF) : Prop where
  ex : ∃ f : Addr, Meth K (He.ga K (cname c)) m f ∧ JAt P w K mg base cl k f n F
/-- the class c, made -/
structure JMk (P : Program) (w : World) (K : PySem.W.Frag) (mg : Str → Option Value) (base : Heap) (cl : Nat → Value) (k c n : Nat) (F : FF) : Prop where
  ex : ∃ f : Addr, mg (cname c) = some (.ref (He.ga K (cname c))) ∧ Mk K (He.ga K (cname c)) f ∧ JAt P w K mg base cl k f n F
end
def methF (c n : Nat) (F : FF) (fo : EF) (fr : AF) : EF := fun δ s => (fo δ s).bind fun x s1 => match x with
  | .ob k => match s1[k]? with
    | some (.ins c' _) => if c' = c then (fr δ s1).bind fun xs s2 => if xs.length + 1 = n then F (.ob k :: xs) s2 else .stuck else .stuck
    | _ => .stuck
  | _ => .stuck
def makeF (c n : Nat) (F : FF) (fr : AF) : EF := fun δ s => (fr δ s).bind fun xs s1 => if xs.length + 1 = n then (F (.ob s1.length :: xs) (s1 ++ [.ins c []])).bind fun d s2 => match d with
  | .non => .val (.ob s1.length) s2
  | _ => .stuck
  else .stuck
section
variable {X : Cx} {cl : Nat → Value} {W : WX} {o e : Expr} {es : List Expr} {x m : Str} {p pos apos : Pos} {fo : EF} {fr : AF} {c n k j : Nat} {F : FF}
theorem je_meth {pl : Sem Bool} (J : JMt X.prog X.w X.K X.mg X.base cl k c m n F) (hc : ClsOk X.K c) (hr : Room j X.A) (hk : k ≤ j) (tk : Takes X W) (ho : JE X cl W o fo) (ha : JA X cl W (e :: es) fr) (hm : m ∉ fnames c := by decide)
    (hst : starEach (e :: es) X.env = (false, eval e X.env) :: starEach es X.env := by rfl) (hpl : (backTo pos (starEach es X.env)).any (·.1) = false := by rfl)
    (ht : eval (.Call (.Attribute o m apos) (e :: es) [] pos) X.env = (do
      let ov ← eval o X.env
      standAt apos.atName
      let (f, first) ← holding [ov] (getMethod ov m pl)
      callWith pos f first (backTo pos (starEach (e :: es) X.env)) (backToKw pos (keywordEach [] X.env))) := by rfl) :
    JE X cl W (.Call (.Attribute o m apos) (e :: es) [] pos) (methF c n F fo fr) := by
  obtain ⟨f, hM, J⟩ := J.ex
  obtain ⟨fd, ps, kp, b, G⟩ := J.ex
  refine (pe_methSS (pl := pl) ho hc.cls hM G (hr.mono hk) b (fun σ => passAt tk σ) ha hst hpl ht).imp fun σ H Q h => ?_
  obtain ⟨M, ι, δ, s, C, S, Pq⟩ := h
  refine ⟨M, ι, δ, s, C, S, Post.mono (Post.bind (Rep X.K) Pq) fun u H1 m1 => ?_⟩
  obtain ⟨M1, ι1, xd, s1, t1, C1, r1, P1⟩ := m1.ex
  split at P1
  · rename_i kk
    split at P1
    · rename_i c' ds ee
      split at P1
      · rename_i hcc
        subst hcc
        obtain ⟨a, rfl, hk2⟩ := r1
        obtain ⟨hM1, dx, vs, h1, r2⟩ := C1.obs kk a _ hk2 ee
        refine ⟨a, dx, _, rfl, h1, zip_none hm, M1, ι1, δ, s1, C1, S.step t1, Post.mono (Post.bind (Reps X.K) P1) fun us H2 m2 => ?_⟩
        obtain ⟨M2, ι2, xs, s2, t2, C2, r3, P2⟩ := m2.ex
        split at P2
        · rename_i hn
          have ro : Rep X.K M2 ι2 (.ob kk) (.ref a) := ⟨a, rfl, t2.ii _ _ hk2⟩
          exact ⟨M2, ι2, s2, .ob kk :: xs, C2, .cons ro r3, by simpa using hn, P2⟩
        · exact P2.elim
      · exact P1.elim
    · exact P1.elim
  · exact P1.elim
theorem je_meth0 {pl : Sem Bool} (J : JMt X.prog X.w X.K X.mg X.base cl k c m n F) (hc : ClsOk X.K c) (hr : Room j X.A) (hk : k ≤ j) (tk : Takes X W) (ho : JE X cl W o fo) (hm : m ∉ fnames c := by decide)
    (ht : eval (.Call (.Attribute o m apos) [] [] pos) X.env = (do
      let ov ← eval o X.env
      standAt apos.atName
      let (f, first) ← holding [ov] (getMethod ov m pl)
      callWith pos f first (backTo pos (starEach [] X.env)) (backToKw pos (keywordEach [] X.env))) := by rfl) :
    JE X cl W (.Call (.Attribute o m apos) [] [] pos) (methF c n F fo nil) := by
  obtain ⟨f, hM, J⟩ := J.ex
  obtain ⟨fd, ps, kp, b, G⟩ := J.ex
  refine (pe_methSS0 (pl := pl) ho hc.cls hM G (hr.mono hk) b (fun σ => passAt tk σ) ht).imp fun σ H Q h => ?_
  obtain ⟨M, ι, δ, s, C, S, Pq⟩ := h
  refine ⟨M, ι, δ, s, C, S, Post.mono (Post.bind (Rep X.K) Pq) fun u H1 m1 => ?_⟩
  obtain ⟨M1, ι1, xd, s1, t1, C1, r1, P1⟩ := m1.ex
  split at P1
  · rename_i kk
    split at P1
    · rename_i c' ds ee
      split at P1
      · rename_i hcc
        subst hcc
        obtain ⟨a, rfl, hk2⟩ := r1
        obtain ⟨hM1, dx, vs, h1, r2⟩ := C1.obs kk a _ hk2 ee
        refine ⟨a, dx, _, rfl, h1, zip_none hm, ?_⟩
        simp only [nil, O.bind_val] at P1
        split at P1
        · rename_i hn
          exact ⟨M1, ι1, s1, [.ob kk], C1, .cons ⟨a, rfl, hk2⟩ .nil, by simpa using hn, P1⟩
        · exact P1.elim
      · exact P1.elim
    · exact P1.elim
  · exact P1.elim
theorem je_make (hx : cname c = x) (J : JMk X.prog X.w X.K X.mg X.base cl k c n F) (hr : Room j X.A) (hk : k + 1 ≤ j) (tk : Takes X W) (hg : Gl X x) (ha : JA X cl W (e :: es) fr)
    (hdb : (x == ("__debug__" : Str)) = false := by decide) (he : starEach (e :: es) X.env = (false, eval e X.env) :: starEach es X.env := by rfl) (hpl : (backTo pos (starEach es X.env)).any (·.1) = false := by rfl) :
    JE X cl W (.Call (.Name x p) (e :: es) [] pos) (makeF c n F fr) := by
  subst hx
  obtain ⟨f, hm, hM, J⟩ := J.ex
  obtain ⟨fd, ps, kp, b, G⟩ := J.ex
  refine (pe_makeS hM G (hr.mono hk) hg hm b (fun σ => passAt tk σ) ha hdb he hpl).imp fun σ H Q h => ?_
  obtain ⟨M, ι, δ, s, C, S, Pq⟩ := h
  refine ⟨M, ι, δ, s, C, S, Post.mono (Post.bind (Reps X.K) Pq) fun us H1 m1 => ?_⟩
  obtain ⟨M1, ι1, xs, s1, t1, C1, r1, P1⟩ := m1.ex
  intro x dx hx hdx hne
  split at P1
  · rename_i hn
    obtain ⟨Ca, ta⟩ := C1.over (o := .own x) hdx
    have hx2 : (upd H1 dx (.own x)) x = none := by rw [upd_ne (Ne.symm hne)]; exact hx
    obtain ⟨Cb, tb⟩ := Ca.over (o := .ins (He.ga X.K (cname c)) dx []) hx2
    obtain ⟨hMx, hιx⟩ := Ca.fresh hx2
    have Cc := Cb.join (u := .ins c []) hιx ⟨hMx, dx, [], by rw [upd_same]; simp, .nil⟩
    have tc : Step M1 ι1 H1 M1 (ι1 ++ [x]) (upd (upd H1 dx (.own x)) x (.ins (He.ga X.K (cname c)) dx [])) := by
      have t0 := ta.trans tb
      refine ⟨t0.mm, fun k a h => ii_app k a h, t0.fr, fun a h => ?_, t0.mn⟩
      rcases List.mem_append.mp h with q | q
      · exact .inl q
      · obtain rfl : a = x := by simpa using q
        exact .inr hx
    have hlen : (ι1 ++ [x])[s1.length]? = some x := by rw [← C1.len]; simp
    have ro : Rep X.K M1 (ι1 ++ [x]) (.ob s1.length) (.ref x) := ⟨x, rfl, hlen⟩
    refine ⟨M1, ι1 ++ [x], _, .ob s1.length :: xs, Cc, .cons ro (r1.step tc), by simpa using hn, ?_⟩
    refine Post.mono (Post.bind (Rep X.K) (Post.step P1 tc)) fun v H2 m2 => ?_
    obtain ⟨M2, ι2, d, s2, t2, C2, r2, P2⟩ := m2.ex
    split at P2
    · exact ⟨r2.non, P2.now C2 ⟨x, rfl, t2.ii _ _ hlen⟩⟩
    · exact P2.elim
  · exact P1.elim
end
end Fl
set_option Elab.async false
set_option linter.all false
set_option maxRecDepth 100000
/-! own exceptions: raise, try; `in` by an own __contains__. -/
namespace Fl
open PySem PySem.Spec PyProof.Rows L2
/-- exception classes by number -/
def ename : Nat → Str
  | 0 => "InvalidRow"
  | 1 => "InvalidPromise"
  | 2 => "InvalidNumber"
  | 3 => "NoSuchDay"
  | 4 => "OtherLengths"
  | 5 => "Contradiction"
  | 6 => "TooMany"
  | 7 => "NothingToUndo"
  | _ => "DayError"
def clK (K : PySem.W.Frag) (c : Nat) : Value := .ref (He.ga K (ename c))
/-- what of the text an exception's class must have -/
structure ExcOk (K : PySem.W.Frag) (mg : Str → Option Value) (c : Nat) : Prop where
  gl : mg (ename c) = some (.ref (He.ga K (ename c)))
  ex : PySem.W.excIn K (He.ga K (ename c)) He.veBase "ValueError.__new__" = true
  kp : PySem.W.keepIn K (.ref (He.ga K (ename c))) = true
  sb : PySem.W.subIn K (.ref (He.ga K (ename c))) (.type "BaseException") = some true
  ty : PySem.W.typeIn K (.ref (He.ga K (ename c))) = some (.type "type")
def raiseS (c : Nat) : SF := fun δ s => .exc c δ s
/-- does the clause h take c -/
def takesC (h c : Nat) : Bool := decide (c = h) || decide (h = 8)
def pickC (c : Nat) : List (Nat × SF) → Option SF
  | [] => none
  | (h, g) :: r => if takesC h c = true then some g else pickC c r
def noXS : OS → OS
  | .exc _ _ _ => .stuck
  | o => o
theorem PostS.noXS {K : PySem.W.Frag} {cl cl' : Nat → Value} {W W' : WX} {D : Ends} {M : Hp} {ι : List Addr} {H : Hp} : ∀ {o : OS}, PostS K cl W D M ι H (noXS o) → PostS K cl' W' D M ι H o
  | .stuck, h => h
  | .nx _ _, h => h
  | .bk _ _, h => h
  | .ct _ _, h => h
  | .rt _ _, h => h
  | .exc _ _ _, h => h.elim
/-- what the clauses make of an exception -/
def pickS (l : List (Nat × SF)) (c : Nat) (δ : Sl) (s : Sto) : OS := match pickC c l with
  | some g => noXS (g δ s)
  | none => .exc c δ s
/-- try: body (it lets out exceptions among cs), except h: g, .. -/
def tryC (cs : List Nat) (f : SF) (hs : List (Nat × SF)) : SF := fun δ s => match f δ s with
  | .exc c δ' s' => if c ∈ cs then pickS hs c δ' s' else .stuck
  | o => o
/-- which exceptions may come where a clause is asked -/
structure TakesOk (K : PySem.W.Frag) (mg : Str → Option Value) (cs : List Nat) (h : Nat) : Prop where
  gl : mg (ename h) = some (.ref (He.ga K (ename h)))
  ex : ∀ c ∈ cs, PySem.W.exmOne K (clK K c) (clK K h) = some (takesC h c)
section
variable {X : Cx} {W : WX}
theorem js_raise {m : Str} {j : Nat} {p p2 pos pos' : Pos} {x : Str} (c : Nat) (hx : ename c = x) (T : ExcOk X.K X.mg c) (hc : X.calm = true := by rfl) (tk : Takes X W) (hg : Gl X x) (hdb : (x == ("__debug__" : Str)) = false := by decide) :
    JS X (clK X.K) W (.Raise (some (.Call (.Name x p) [.Constant (.str m) j p2] [] pos)) none pos') (raiseS c) := by
  subst hx
  refine (ps_raise hc tk (pmk_own PySem.F.excBase_ValueError T.ex T.gl T.kp (raises_own T.sb T.ty) hg hdb)).imp fun D σ H h => ?_
  obtain ⟨M, ι, δ, s, C, S, P⟩ := h
  exact P M ι H σ Step.refl C S
/-- the clauses -/
inductive JHs (X : Cx) (cs : List Nat) : List ExceptHandler → List (Nat × SF) → Prop
  | nil : JHs X cs [] []
  | cons {x : Str} {h : Nat} {g : SF} {b₀ : Stmt} {suite : List Stmt} {np pos' : Pos} {hds : List ExceptHandler} {l : List (Nat × SF)} (hx : ename h = x) (hg : Gl X x) (hdb : (x == ("__debug__" : Str)) = false) (T : TakesOk X.K X.mg cs h)
      (hsu : ∀ (a : Addr) (oe : Obj) (pn : List (Addr × Obj)), JSs (X.suite a ((a, oe) :: pn)) (clK X.K) (fun _ _ _ _ => False) (b₀ :: suite) g) (r : JHs X cs hds l) :
      JHs X cs (.ExceptHandler (some (.Name x np)) none (b₀ :: suite) pos' :: hds) ((h, g) :: l)
/-- .. as the rule wants them -/
def tsOf (K : PySem.W.Frag) (l : List (Nat × SF)) : List (Value × (Addr → Value → Option Addr → TS)) := l.map fun p => (clK K p.1, fun _ _ _ => rdS K (clK K) (fun _ _ _ _ => False) p.2)
theorem JHs.ok {X : Cx} {cs : List Nat} {hds : List ExceptHandler} {l : List (Nat × SF)} (h : JHs X cs hds l) : HdsOk X hds (tsOf X.K l) := by
  induction h with
  | nil => exact .nil
  | @cons x h g b₀ suite np pos' hds l hx hg hdb T hsu r ih =>
    subst hx
    exact .cons ⟨hg, hdb, .inl T.gl⟩ (fun a oe cls d pn _ _ => hsu a oe pn) ih
theorem wMany_of {K : PySem.W.Frag} {mg : Str → Option Value} {cs : List Nat} {W : WX} {D : Ends} {M : Hp} {ι : List Addr} {s : Sto} {H : Hp} {δ : Sl} {σ : L2.St} {c : Nat} (hcs : c ∈ cs) (C : Conc K M ι s H) (S : RepS K M ι δ σ) :
    ∀ {l : List (Nat × SF)}, (∀ p ∈ l, TakesOk K mg cs p.1) → PostS K (clK K) W D M ι H (pickS l c δ s) → wMany K W D (tsOf K l) (clK K c) none σ H
  | [], _, P => P M ι H σ Step.refl C S
  | (h, g) :: l, T, P => by
    refine ⟨_, (T _ (List.mem_cons_self ..)).ex c hcs, fun hb a ha => ?_, fun hb => ?_⟩
    · have hb' : takesC h c = true := hb
      unfold pickS pickC at P
      rw [if_pos hb'] at P
      exact ⟨M, ι, δ, s, C, S, PostS.noXS P⟩
    · have hb' : ¬ takesC h c = true := by
        have : takesC h c = false := hb
        rw [this]; exact Bool.false_ne_true
      unfold pickS pickC at P
      rw [if_neg hb'] at P
      exact wMany_of hcs C S (fun p hp => T p (List.mem_cons_of_mem _ hp)) P
theorem JHs.takes {X : Cx} {cs : List Nat} {hds : List ExceptHandler} {l : List (Nat × SF)} (h : JHs X cs hds l) : ∀ p ∈ l, TakesOk X.K X.mg cs p.1 := by
  induction h with
  | nil => intro p hp; cases hp
  | cons hx hg hdb T hsu r ih =>
    intro p hp
    rcases List.mem_cons.mp hp with rfl | hp
    · exact T
    · exact ih p hp
theorem js_try {cs : List Nat} {body : List Stmt} {h₀ : ExceptHandler} {hds : List ExceptHandler} {l : List (Nat × SF)} {pos : Pos} {f : SF} (hs : X.stack = X.env :: X.outer := by rfl) (hf : X.env.frame = some X.env.locals := by rfl) (tk : Takes X W)
    (hb : ∀ (W' : WX) (pn : List (Addr × Obj)) (xe : Value → Shared → Prop), Takes (X.tr pn xe) W' → PassesOwn (model X.prog X.w) X.A X.env xe → JSs (X.tr pn xe) (clK X.K) W' body f)
    (hh : JHs X cs (h₀ :: hds) l) : JS X (clK X.K) W (.Try body (h₀ :: hds) [] [] pos) (tryC cs f l) := by
  refine (ps_try_many (tb := fun W' => rdS X.K (clK X.K) W' f) hs hf tk hb hh.ok).imp fun D σ H h => ?_
  obtain ⟨M, ι, δ, s, C, S, P⟩ := h
  refine ⟨M, ι, δ, s, C, S, ?_⟩
  unfold tryC at P
  revert P
  cases f δ s with
  | exc c δ' s' =>
    intro P M' ι' H' σ' t C' S'
    have P2 := PostS.step P t
    by_cases hcs : c ∈ cs
    · simp only [if_pos hcs] at P2
      exact wMany_of hcs C' S' hh.takes P2
    · simp only [if_neg hcs] at P2; exact P2.elim
  | _ => exact fun P => P
end
/-! ### in, by an own __contains__ -/
section
variable {M : Model} {A : Around} {E : Value → Shared → Prop} {s : Shared} {K : PySem.W.Frag} {x C f : Addr} {ox : Obj} {od : Option Obj} {v : Value}
theorem contains_own {Q : Bool → Shared → Prop} (X : K.In s.heap) (I : PySem.W.InstAt s.heap x ox C od) (hs : PySem.W.findIn K (.ref C) "__contains__" = some (some (.ref f))) (hf : PySem.W.isFn K (.ref f) = true)
    (h : wpAny M A (call (.ref f) [.ref x, v]) (fun r s' => wpAny M A (truthy r) Q E s') E s) : wpAny M A (contains (.ref x) v) Q E s := by
  unfold contains
  refine wpAny_holding (wpAny_bind (wpAny_bind (I.type.here ((PySem.W.looks_findIn X hs).here ?_))))
  rw [if_neg (by simp)]
  exact wpAny_bind (PySem.W.unlessNone_K X I hs hf h)
end
/-- x in y, y of the class c, its __contains__ being F -/
def inO (n c : Nat) (F : FF) : Op2 := fun s x y => match y with
  | .ob k => match s[k]? with
    | some (.ins c' _) => if c' = c ∧ n = 2 then match F [.ob k, x] s with
      | .val (.bl b) s' => .val (.bl b) s'
      | _ => .stuck
      else .stuck
    | _ => .stuck
  | _ => .stuck
def ninO (n c : Nat) (F : FF) : Op2 := fun s x y => match inO n c F s x y with
  | .val (.bl b) s' => .val (.bl (!b)) s'
  | _ => .stuck
def rInO (C : Addr) (sp : Sp) (g : Bool → Bool) : R2 := fun x y H Q => ∃ a dx fs, y = .ref a ∧ H a = some (.ins C dx fs) ∧ sp [y, x] H (fun v H' => ∃ b, v = .bl b ∧ Q (.bl (g b)) H') (fun _ _ _ => False)
section
variable {X : Cx}
theorem cls_inst {pins : List (Addr × Obj)} {σ : L2.St} {H : Hp} {s : Shared} {a C dx : Addr} {fs : List (Str × V)} (I : Inv X pins σ H s) (e : H a = some (.ins C dx fs)) : ∃ ox od, PySem.W.InstAt s.heap a ox C od := by
  obtain ⟨mA, O, _, _, _, _⟩ := ins_get I.hok e
  obtain ⟨od, J, _⟩ := O.look
  exact ⟨_, _, J⟩
theorem pass_false {σ : L2.St} : PassesAt (L2.CX X.prog X.w) X σ (fun _ _ _ => False) := fun pins H s e s' I c => by
  obtain ⟨_, _, _, _, _, _, _, _, _, _, _, _, z⟩ := c
  exact z.elim
theorem op_inO {k : Nat} {f C : Addr} {fd : FuncData} {ps : List Str} {sp : Sp} (hm : Meth X.K C "__contains__" f) (F : FnOk X.prog X.w X.K X.mg X.base (L2.CX X.prog X.w) k f fd ps sp) (hr : Room k X.A) (hb : Binds X.K fd ps []) : OpR X (compareOp .In) (rInO C sp id) := by
  intro pins s σ H x y v u Q I rx ry h
  obtain ⟨a, dx, fs, rfl, ea, h⟩ := h
  obtain rfl : u = Value.ref a := ry
  obtain ⟨ox, od, J⟩ := cls_inst I ea
  refine wpAny_bind (contains_own I.kIn J hm.at_ hm.fn (wpAny_mono (run_fnS (us := [.ref a, v]) (vs := [.ref a, x]) (E := fun _ _ _ _ => False) F hr hb pass_false I (.cons rfl (.cons rx .nil)) h) (fun r s' hq => ?_) fun _ _ z => z))
  obtain ⟨v', H', I', rv, b, rfl, q⟩ := hq
  obtain rfl : r = Value.bool b := rv
  exact wpAny_truthy_bool (wpAny_pure ⟨.bl _, _, I', rfl, q⟩)
theorem op_ninO {k : Nat} {f C : Addr} {fd : FuncData} {ps : List Str} {sp : Sp} (hm : Meth X.K C "__contains__" f) (F : FnOk X.prog X.w X.K X.mg X.base (L2.CX X.prog X.w) k f fd ps sp) (hr : Room k X.A) (hb : Binds X.K fd ps []) : OpR X (compareOp .NotIn) (rInO C sp not) := by
  intro pins s σ H x y v u Q I rx ry h
  obtain ⟨a, dx, fs, rfl, ea, h⟩ := h
  obtain rfl : u = Value.ref a := ry
  obtain ⟨ox, od, J⟩ := cls_inst I ea
  refine wpAny_bind (contains_own I.kIn J hm.at_ hm.fn (wpAny_mono (run_fnS (us := [.ref a, v]) (vs := [.ref a, x]) (E := fun _ _ _ _ => False) F hr hb pass_false I (.cons rfl (.cons rx .nil)) h) (fun r s' hq => ?_) fun _ _ z => z))
  obtain ⟨v', H', I', rv, b, rfl, q⟩ := hq
  obtain rfl : r = Value.bool b := rv
  exact wpAny_truthy_bool (wpAny_pure ⟨.bl _, _, I', rfl, q⟩)
theorem op_inJ {cl : Nat → Value} {k j c n : Nat} {F : FF} (J : JMt X.prog X.w X.K X.mg X.base cl k c "__contains__" n F) (hr : Room j X.A) (hk : k ≤ j) : ∃ r r' : R2, OpR X (compareOp .In) r ∧ Ok2 X.K r (inO n c F) ∧ OpR X (compareOp .NotIn) r' ∧ Ok2 X.K r' (ninO n c F) := by
  obtain ⟨f, hM, J⟩ := J.ex
  obtain ⟨fd, ps, kp, b, G⟩ := J.ex
  have key : ∀ (g : Bool → Bool) (Wx : Nat → Hp → Prop) (M : Hp) (ι : List Addr) (s : Sto) (H : Hp) (x y : D) (u v : V) (Q : VK), Conc X.K M ι s H → Rep X.K M ι x u → Rep X.K M ι y v →
      Post X.K (Rep X.K) Wx M ι H (match inO n c F s x y with | .val (.bl b) s' => .val (.bl (g b)) s' | _ => .stuck) Q → rInO (He.ga X.K (cname c)) (SpF X.K cl n F) g u v H Q := by
    intro g Wx M ι s H x y u v Q C rx ry P
    unfold inO at P
    split at P
    · rename_i b' s' hq
      split at hq
      · rename_i k'
        split at hq
        · rename_i c' ds ee
          split at hq
          · rename_i hcn
            obtain ⟨rfl, rfl⟩ := hcn
            split at hq
            · rename_i b2 s2 hF
              cases hq
              obtain ⟨a, rfl, hk2⟩ := ry
              obtain ⟨hM1, dx, vs, h1, r2⟩ := C.obs k' a _ hk2 ee
              refine ⟨a, dx, _, rfl, h1, M, ι, s, [.ob k', x], C, .cons ⟨a, rfl, hk2⟩ (.cons rx .nil), rfl, ?_⟩
              rw [hF]
              intro M' ι' H' v' t C' r'
              exact ⟨b', r'.bl, P M' ι' H' _ t C' rf_bl⟩
            · cases hq
          · cases hq
        · cases hq
      · cases hq
    · exact P.elim
  refine ⟨_, _, op_inO hM G (hr.mono hk) b, fun Wx M ι s H x y u v Q C rx ry P => key id Wx M ι s H x y u v Q C rx ry ?_, op_ninO hM G (hr.mono hk) b, fun Wx M ι s H x y u v Q C rx ry P => key not Wx M ι s H x y u v Q C rx ry ?_⟩
  · revert P
    generalize hi : inO n c F s x y = o
    cases o with
    | val d s' =>
      cases d <;> first | exact fun P => P | (exfalso; revert hi; unfold inO; repeat' split) <;> simp
    | _ => first | exact fun P => P | (exfalso; revert hi; unfold inO; repeat' split) <;> simp
  · exact P
end
end Fl
namespace Fl
open PySem PySem.Spec PyProof.Rows L2
section
variable {X : Cx} {cl : Nat → Value} {W : WX} {a b : Expr} {fa fb : EF} {pos : Pos} {k j c n : Nat} {F : FF}
theorem je_inO (J : JMt X.prog X.w X.K X.mg X.base cl k c "__contains__" n F) (hr : Room j X.A) (hk : k ≤ j) (ha : JE X cl W a fa) (hb : JE X cl W b fb) (hm : behindInMarks .In b = false := by rfl) : JE X cl W (.Compare a [.In] [b] pos) (bin (inO n c F) fa fb) := by
  obtain ⟨r, r', a1, a2, a3, a4⟩ := op_inJ J hr hk
  exact je_cmp a1 a2 ha hb hm
theorem je_ninO (J : JMt X.prog X.w X.K X.mg X.base cl k c "__contains__" n F) (hr : Room j X.A) (hk : k ≤ j) (ha : JE X cl W a fa) (hb : JE X cl W b fb) (hm : behindInMarks .NotIn b = false := by rfl) : JE X cl W (.Compare a [.NotIn] [b] pos) (bin (ninO n c F) fa fb) := by
  obtain ⟨r, r', a1, a2, a3, a4⟩ := op_inJ J hr hk
  exact je_cmp a3 a4 ha hb hm
theorem jt_inO (J : JMt X.prog X.w X.K X.mg X.base cl k c "__contains__" n F) (hr : Room j X.A) (hk : k ≤ j) (ha : JE X cl W a fa) (hb : JE X cl W b fb) (hm : behindInMarks .In b = false := by rfl) : JT X cl W (.Compare a [.In] [b] pos) (tst (bin (inO n c F) fa fb)) := by
  obtain ⟨r, r', a1, a2, a3, a4⟩ := op_inJ J hr hk
  exact jt_cmp a1 a2 ha hb hm
theorem jt_ninO (J : JMt X.prog X.w X.K X.mg X.base cl k c "__contains__" n F) (hr : Room j X.A) (hk : k ≤ j) (ha : JE X cl W a fa) (hb : JE X cl W b fb) (hm : behindInMarks .NotIn b = false := by rfl) : JT X cl W (.Compare a [.NotIn] [b] pos) (tst (bin (ninO n c F) fa fb)) := by
  obtain ⟨r, r', a1, a2, a3, a4⟩ := op_inJ J hr hk
  exact jt_cmp a3 a4 ha hb hm
/-- a statement of which nothing is said -/
def noS : SF := fun _ _ => .stuck
theorem js_no {st : Stmt} : JS X cl W st noS := ⟨fun pins s σ H D I h => by
  obtain ⟨M, ι, δ, st', _, _, P⟩ := h
  exact P.elim⟩
end
/-- the n-th statement of a class -/
def mth (s : Stmt) (n : Nat) : Stmt := match s with
  | .ClassDef _ _ _ body _ _ _ _ _ _ _ => body.getD n (.Pass ⟨0, 0, 0, 0⟩)
  | _ => .Pass ⟨0, 0, 0, 0⟩
end Fl
set_option Elab.async false
set_option linter.all false
set_option maxRecDepth 100000
/-! dicts of one's own whose keys are tuples (of numbers, None, tuples). -/
namespace Fl
open PySem PySem.Spec PyProof.Rows L2
/-! ### keys -/
mutual
def kd : NestedKey → D
  | .none => .non
  | .num i => .int i
  | .text _ => .non
  | .tup ks => .tup (kds ks)
def kds : List NestedKey → List D
  | [] => []
  | k :: ks => kd k :: kds ks
end
mutual
def dk : D → Option NestedKey
  | .non => some .none
  | .int i => some (.num i)
  | .tup ds => (dks ds).map NestedKey.tup
  | _ => none
def dks : List D → Option (List NestedKey)
  | [] => some []
  | d :: ds => match dk d, dks ds with
    | some k, some ks => some (k :: ks)
    | _, _ => none
end
mutual
theorem dk_rep {K : PySem.W.Frag} {M : Hp} : ∀ {d : D} {v : V} {k : NestedKey}, RepF K M d v → dk d = some k → KeyM K M k v
  | .non, v, k, h, e => by unfold dk at e; cases e; unfold RepF at h; unfold KeyM; exact h
  | .int i, v, k, h, e => by unfold dk at e; cases e; unfold RepF at h; unfold KeyM; exact h
  | .tup ds, v, k, h, e => by
    unfold dk at e
    obtain ⟨ks, h1, rfl⟩ := Option.map_eq_some_iff.mp e
    unfold RepF at h
    obtain ⟨a, vs, rfl, h2, h3⟩ := h
    unfold KeyM
    exact ⟨a, vs, rfl, h2, dks_rep h3 h1⟩
  | .bl _, _, _, _, e => by unfold dk at e; cases e
  | .str _, _, _, _, e => by unfold dk at e; cases e
  | .lst _, _, _, _, e => by unfold dk at e; cases e
  | .scr _, _, _, _, e => by unfold dk at e; cases e
  | .ty _, _, _, _, e => by unfold dk at e; cases e
  | .ob _, _, _, _, e => by unfold dk at e; cases e
theorem dks_rep {K : PySem.W.Frag} {M : Hp} : ∀ {ds : List D} {vs : List V} {ks : List NestedKey}, RepL K M ds vs → dks ds = some ks → KeysM K M ks vs
  | [], vs, ks, h, e => by unfold dks at e; cases e; unfold KeysM; exact h.unnil
  | d :: ds, vs, ks, h, e => by
    obtain ⟨v, r, rfl, h1, h2⟩ := h.uncons
    unfold dks at e
    split at e
    · rename_i k ks' e1 e2
      cases e
      unfold KeysM
      exact ⟨v, r, rfl, dk_rep h1 e1, dks_rep h2 e2⟩
    · cases e
end
mutual
theorem KeyM.rep {K : PySem.W.Frag} {M : Hp} : ∀ {k : NestedKey} {v : V}, KeyM K M k v → RepF K M (kd k) v
  | .none, v, h => by unfold KeyM at h; unfold kd RepF; exact h
  | .num i, v, h => by unfold KeyM at h; unfold kd RepF; exact h
  | .text x, v, h => by unfold KeyM at h; exact h.elim
  | .tup ks, v, h => by
    unfold KeyM at h
    obtain ⟨a, vs, rfl, h1, h2⟩ := h
    unfold kd RepF
    exact ⟨a, vs, rfl, h1, KeysM.rep h2⟩
theorem KeysM.rep {K : PySem.W.Frag} {M : Hp} : ∀ {ks : List NestedKey} {vs : List V}, KeysM K M ks vs → RepL K M (kds ks) vs
  | [], vs, h => by unfold KeysM at h; subst h; unfold kds; exact .nil
  | k :: ks, vs, h => by
    unfold KeysM at h
    obtain ⟨v, r, rfl, h1, h2⟩ := h
    unfold kds
    exact .cons (KeyM.rep h1) (KeysM.rep h2)
end
theorem kd_flat : ∀ k : NestedKey, flat (kd k) = true
  | .none => by unfold kd; rfl
  | .num _ => by unfold kd; rfl
  | .text _ => by unfold kd; rfl
  | .tup _ => by unfold kd; rfl
mutual
theorem KeyM.is {P : Program} {w : World} {K : PySem.W.Frag} {M H : Hp} {h : Heap} (m : Ex M H) (ok : HOk P w H h) (kin : K.In h) : ∀ {k : NestedKey} {v : V} {u : Value}, KeyM K M k v → RelV v u → NestedIs h k u
  | .none, v, u, q, r => by
    unfold KeyM at q; subst q
    obtain rfl : u = Value.none := r
    exact .none
  | .num i, v, u, q, r => by
    unfold KeyM at q; subst q
    obtain ⟨t, rfl⟩ : ∃ t, u = Value.int i t := r
    exact .int i t
  | .text x, v, u, q, r => by unfold KeyM at q; exact q.elim
  | .tup ks, v, u, q, r => by
    unfold KeyM at q
    obtain ⟨a, vs, rfl, h1, h2⟩ := q
    obtain rfl : u = Value.ref a := r
    rcases h1 with h1 | ⟨o, its, n, h1, h3, h4, _, h5⟩
    · obtain ⟨_, its, r1, o, g1, g2, n, g3⟩ : L2.ObjOk P w H h a (.tup vs) := ok a _ (m _ _ h1)
      exact .tup g1 g2 g3 (by simpa using KeysM.is m ok kin h2 r1)
    · exact .tup (kin _ _ h1) h3 h4 (KeysM.is m ok kin h2 h5)
theorem KeysM.is {P : Program} {w : World} {K : PySem.W.Frag} {M H : Hp} {h : Heap} (m : Ex M H) (ok : HOk P w H h) (kin : K.In h) : ∀ {ks : List NestedKey} {vs : List V} {us : List Value}, KeysM K M ks vs → Vals vs us → NestedAll h ks us
  | [], vs, us, q, r => by
    unfold KeysM at q; subst q
    cases r
    exact .nil
  | k :: ks, vs, us, q, r => by
    unfold KeysM at q
    obtain ⟨v, rr, rfl, h1, h2⟩ := q
    cases r with
    | cons r1 r2 => exact .cons (KeyM.is m ok kin h1 r1) (KeysM.is m ok kin h2 r2)
end
/-! ### the dict where it stands -/
section
variable {X : Cx} {pins : List (Addr × Obj)} {σ : L2.St} {M H : Hp} {s : Shared} {a : Addr} {xs : List Ent}
theorem dic_at (I : Inv X pins σ H s) (e : H a = some (dicO a xs)) : ∃ o es ep, s.heap.get? a = some o ∧ o.ExactDict ∧ o.data = .dict es ep ∧ es.toList = xs.map ent := (I.hok a _ e).1
structure KeysOk (K : PySem.W.Frag) (H : Hp) (xs : List Ent) : Prop where
  ex : ∃ M, Ex M H ∧ ∀ x ∈ xs, KeyM K M x.1 (.ref x.2.1) ∧ x.1.depth ≤ 8
  nd : (xs.map (·.1)).Nodup
theorem ent_eq {P : Program} {w : World} {K : PySem.W.Frag} {M : Hp} {xs : List Ent} (h : ∀ x ∈ xs, KeyM K M x.1 (.ref x.2.1) ∧ x.1.depth ≤ 8) : xs.map ent = xs.map (entryOfKey (nestedKind P w)) := by
  refine List.map_congr_left fun x hx => ?_
  have := hsh_eq w x.1 (h x hx).1.ntx
  show (⟨hsh x.1, .ref x.2.1, x.2.2⟩ : DictEntry) = ⟨NestedKey.hash w x.1, .ref x.2.1, x.2.2⟩
  rw [this]
theorem dic_of (I : Inv X pins σ H s) (e : H a = some (dicO a xs)) (k : KeysOk X.K H xs) : s.heap.DictOfH (nestedKind X.prog X.w) a xs := by
  obtain ⟨o, es, ep, h1, h2, h3, h4⟩ := dic_at I e
  obtain ⟨M, m, hk⟩ := k.ex
  exact ⟨o, es, ep, h1, h2, h3, by rw [h4]; exact ent_eq hk, fun x hx => ⟨KeyM.is m I.hok I.kIn (hk x hx).1 rfl, (hk x hx).2⟩, k.nd⟩
end
/-- the key k at x in the dict at y -/
structure DicAsk (K : PySem.W.Frag) (x y : V) (H : Hp) (k : NestedKey) (b d : Addr) (xs : List Ent) : Prop where
  hx : x = .ref b
  hy : y = .ref d
  hd : H d = some (dicO d xs)
  hs : (d == sysModules) = false
  ks : KeysOk K H xs
  key : ∃ M, Ex M H ∧ KeyM K M k x
  dep : k.depth ≤ 8
def rInDk (K : PySem.W.Frag) (g : Bool → Bool) : R2 := fun x y H Q => ∃ k b d xs, DicAsk K x y H k b d xs ∧ Q (.bl (g (atKey xs k).isSome)) H
def rIxDk (K : PySem.W.Frag) : R2 := fun y x H Q => ∃ k b d xs p v, DicAsk K x y H k b d xs ∧ atKey xs k = some p ∧ RelV v p.2 ∧ Q v H
def rSetDk (K : PySem.W.Frag) : TSet := fun y x v H Q => ∃ k b d xs, DicAsk K x y H k b d xs ∧ xs.length ≤ 16000000 ∧ ∀ u, RelV v u → Q (upd H d (dicO d (storedH xs k b u)))
section
variable {X : Cx}
theorem op_inDk (hu : X.A.units + 65 < cLine) : OpR X (compareOp .In) (rInDk X.K id) := by
  intro pins s σ H x y v u Q I rx ry h
  obtain ⟨k, b, d, xs, q, h⟩ := h
  obtain ⟨rfl, rfl, hd, hs, ks, ⟨M, m, hk⟩, hdep⟩ := q
  obtain rfl : v = Value.ref b := rx
  obtain rfl : u = Value.ref d := ry
  refine in_keyed (knd := nestedKind X.prog X.w) (by show X.A.units + 1 + 8 < cLine; omega) ⟨KeyM.is m I.hok I.kIn hk rfl, hdep⟩ hs ⟨xs, dic_of I hd ks, rfl⟩ ?_
  rw [valueAt_pairsH, Option.isSome_map]
  exact ⟨.bl _, H, I.tok _, rfl, h⟩
theorem op_ninDk (hu : X.A.units + 65 < cLine) : OpR X (compareOp .NotIn) (rInDk X.K not) := by
  intro pins s σ H x y v u Q I rx ry h
  obtain ⟨k, b, d, xs, q, h⟩ := h
  obtain ⟨rfl, rfl, hd, hs, ks, ⟨M, m, hk⟩, hdep⟩ := q
  obtain rfl : v = Value.ref b := rx
  obtain rfl : u = Value.ref d := ry
  refine notIn_keyed (knd := nestedKind X.prog X.w) (by show X.A.units + 1 + 8 < cLine; omega) ⟨KeyM.is m I.hok I.kIn hk rfl, hdep⟩ hs ⟨xs, dic_of I hd ks, rfl⟩ ?_
  rw [valueAt_pairsH, Option.isSome_map]
  exact ⟨.bl _, H, I.tok _, rfl, h⟩
theorem ix_Dk (hu : X.A.units + 65 < cLine) : IxR X (rIxDk X.K) := by
  intro value slice pins s σ H y x u v Q I ry rx h hsl
  obtain ⟨k, b, d, xs, p, z, q, hp, rz, h⟩ := h
  obtain ⟨rfl, rfl, hd, hs, ks, ⟨M, m, hk⟩, hdep⟩ := q
  obtain rfl : v = Value.ref b := rx
  obtain rfl : u = Value.ref d := ry
  have hm := dic_of I hd ks
  refine tail_any hm.typeIs slot_dict_getitem.lookup (getItem_keyed (knd := nestedKind X.prog X.w) (v := p.2) (kvs := pairsH xs) (by show X.A.units + 1 + 8 < cLine; omega) ⟨KeyM.is m I.hok I.kIn hk rfl, hdep⟩ ⟨xs, hm, rfl⟩ (by rw [valueAt_pairsH, hp]; rfl) ?_) hsl
  exact ⟨z, H, I.tok _, rz, h⟩
theorem set_Dk (hu : X.A.units + 65 < cLine) : PSet X (rSetDk X.K) := by
  intro pins s σ H y x v ov iv u Q I ry rx rv h
  obtain ⟨k, b, d, xs, q, hl, h⟩ := h
  obtain ⟨rfl, rfl, hd, hs, ks, ⟨M, m, hk⟩, hdep⟩ := q
  obtain rfl : iv = Value.ref b := rx
  obtain rfl : ov = Value.ref d := ry
  have hm := dic_of I hd ks
  refine wpAny_setItem_heap (knd := nestedKind X.prog X.w) (hsz := by rw [sizeLine_eq]; omega) (by show X.A.units + 1 + 8 < cLine; omega) ⟨KeyM.is m I.hok I.kIn hk rfl, hdep⟩ hm fun h' hm' sb => ?_
  obtain ⟨o, es, ep, g1, g2, g3, g4, g5, g6⟩ := hm'
  have hent : es.toList = (storedH xs k b u).map ent := by
    rw [g4]
    refine (List.map_congr_left fun z hz => ?_).symm
    have hz1 : ntx z.1 = true := by
      obtain ⟨M2, m2, hk2⟩ := ks.ex
      have hcase : z.1 = k ∨ ∃ z' ∈ xs, z.1 = z'.1 := by
        unfold storedH at hz
        split at hz
        · obtain ⟨y, hy, rfl⟩ := List.mem_map.mp hz
          unfold putAt
          split
          · exact .inr ⟨y, hy, rfl⟩
          · exact .inr ⟨y, hy, rfl⟩
        · rcases List.mem_append.mp hz with q | q
          · exact .inr ⟨z, q, rfl⟩
          · obtain rfl : z = (k, b, u) := by simpa using q
            exact .inl rfl
      rcases hcase with e | ⟨z', hz', e⟩
      · rw [e]; exact hk.ntx
      · rw [e]; exact (hk2 z' hz').1.ntx
    show (⟨hsh z.1, .ref z.2.1, z.2.2⟩ : DictEntry) = ⟨NestedKey.hash X.w z.1, .ref z.2.1, z.2.2⟩
    rw [hsh_eq X.w z.1 hz1]
  refine ⟨_, ?_, h u rv⟩
  refine I.write (x := d) (e := d) (o := dicO d (storedH xs k b u)) (by rw [hd]; exact True.intro) (.inl rfl) (fun c o' hb z => (sb.2 c hb).trans z) ⟨o, g1⟩ ?_
  exact ⟨⟨o, es, ep, g1, g2, g3, hent⟩, ⟨o, g1⟩, fun h1 h2 q z => by
    obtain ⟨o', es', ep', w1, w2⟩ := q
    exact ⟨o', es', ep', z _ w1, w2⟩⟩
/-- {}, of one's own -/
def tDNewD : TE := fun _ H Q => ∀ p, H p = none → (p == sysModules) = false → Q (.ref p) (upd H p (dicO p []))
theorem pe_dnewD {pos : Pos} : PE X (.Dict [] [] pos) tDNewD := ⟨fun pins s σ H Q I h => by
  refine wpAny_Dict_empty ⟨.ref s.heap.objs.size, _, I.laid (a := s.heap.objs.size) (o := dicO s.heap.objs.size []) (t' := s.toks) (fun b u z => Heap.get?_push_of_some _ z) (Nat.le_refl _) ?_, rfl, h _ (I.hok.fresh (Nat.le_refl _)) (beq_eq_false_iff_ne.mpr (Ne.symm (Nat.ne_of_lt I.big)))⟩
  have e := Heap.get?_push_size s.heap (o := { cls := .type "dict", data := .dict #[] }) rfl
  exact ⟨⟨_, #[], 0, e, ⟨rfl, rfl, rfl⟩, rfl, rfl⟩, ⟨_, e⟩, fun h1 h2 q z => by
    obtain ⟨o', es', ep', w1, w2⟩ := q
    exact ⟨o', es', ep', z _ w1, w2⟩⟩⟩
end
/-! ### as data -/
def getK (kvs : List (NestedKey × D)) (k : NestedKey) : Option D := (kvs.find? fun p => decide (p.1 = k)).map (·.2)
def putK (kvs : List (NestedKey × D)) (k : NestedKey) (d : D) : List (NestedKey × D) := if (getK kvs k).isSome = true then kvs.map (fun p => if p.1 = k then (p.1, d) else p) else kvs ++ [(k, d)]
section
variable {K : PySem.W.Frag} {M : Hp} {ι : List Addr}
inductive En3 (K : PySem.W.Frag) (M : Hp) (ι : List Addr) : List (NestedKey × D) → List Ent → List V → Prop
  | nil : En3 K M ι [] [] []
  | cons {k : NestedKey} {d : D} {b : Addr} {u : Value} {v : V} {kvs : List (NestedKey × D)} {xs : List Ent} {vs : List V} (r : RelV v u) (p : Rep K M ι d v) (t : En3 K M ι kvs xs vs) : En3 K M ι ((k, d) :: kvs) ((k, b, u) :: xs) (v :: vs)
theorem En3.of : ∀ {kvs : List (NestedKey × D)} {xs : List Ent} {vs : List V}, xs.map (·.1) = kvs.map (·.1) → Vals vs (xs.map (·.2.2)) → Reps K M ι (kvs.map (·.2)) vs → En3 K M ι kvs xs vs
  | [], [], _, _, _, r => by cases r; exact .nil
  | [], _ :: _, _, e, _, _ => by cases e
  | _ :: _, [], _, e, _, _ => by cases e
  | (k, d) :: kvs, (k', b, u) :: xs, vs, e, r, p => by
    cases p with
    | cons p1 p2 =>
      cases r with
      | cons r1 r2 =>
        simp only [List.map_cons, List.cons.injEq] at e
        obtain ⟨e1, e2⟩ := e
        subst e1
        exact .cons r1 p1 (En3.of e2 r2 p2)
theorem En3.keys {kvs : List (NestedKey × D)} {xs : List Ent} {vs : List V} (h : En3 K M ι kvs xs vs) : xs.map (·.1) = kvs.map (·.1) := by
  induction h with
  | nil => rfl
  | cons _ _ _ ih => simp [ih]
theorem En3.vals {kvs : List (NestedKey × D)} {xs : List Ent} {vs : List V} (h : En3 K M ι kvs xs vs) : Vals vs (xs.map (·.2.2)) := by
  induction h with
  | nil => exact .nil
  | cons r _ _ ih => exact .cons r ih
theorem En3.reps {kvs : List (NestedKey × D)} {xs : List Ent} {vs : List V} (h : En3 K M ι kvs xs vs) : Reps K M ι (kvs.map (·.2)) vs := by
  induction h with
  | nil => exact .nil
  | cons _ p _ ih => exact .cons p ih
theorem En3.len {kvs : List (NestedKey × D)} {xs : List Ent} {vs : List V} (h : En3 K M ι kvs xs vs) : xs.length = kvs.length := by
  have := congrArg List.length h.keys
  simpa using this
theorem getK_cons {p : NestedKey × D} {kvs : List (NestedKey × D)} {k : NestedKey} : getK (p :: kvs) k = if p.1 = k then some p.2 else getK kvs k := by
  unfold getK
  by_cases h : p.1 = k
  · rw [List.find?_cons_of_pos (by simpa using h), if_pos h]; rfl
  · rw [List.find?_cons_of_neg (by simpa using h), if_neg h]
theorem atKey_cons {p : Ent} {xs : List Ent} {k : NestedKey} : atKey (p :: xs) k = if p.1 = k then some p.2 else atKey xs k := by
  by_cases h : p.1 = k
  · rw [if_pos h]; simp [atKey, h]
  · rw [if_neg h]; simp [atKey, h]
theorem En3.get {kvs : List (NestedKey × D)} {xs : List Ent} {vs : List V} (h : En3 K M ι kvs xs vs) (k : NestedKey) : (atKey xs k = none ∧ getK kvs k = none) ∨ ∃ p d v, atKey xs k = some p ∧ getK kvs k = some d ∧ RelV v p.2 ∧ Rep K M ι d v := by
  induction h with
  | nil => exact .inl ⟨rfl, rfl⟩
  | @cons k' d b u v kvs xs vs r p t ih =>
    rw [atKey_cons, getK_cons]
    by_cases e : k' = k
    · rw [if_pos e, if_pos e]
      exact .inr ⟨_, _, v, rfl, rfl, r, p⟩
    · rw [if_neg e, if_neg e]; exact ih
theorem En3.upd {kvs : List (NestedKey × D)} {xs : List Ent} {vs : List V} (h : En3 K M ι kvs xs vs) {k : NestedKey} {d : D} {v : V} {u : Value} (r : RelV v u) (p : Rep K M ι d v) :
    ∃ vs', En3 K M ι (kvs.map fun z => if z.1 = k then (z.1, d) else z) (xs.map (putAt k u)) vs' := by
  induction h with
  | nil => exact ⟨[], .nil⟩
  | @cons k' d' b u' v' kvs xs vs r' p' t ih =>
    obtain ⟨vs', ih⟩ := ih
    by_cases e : k' = k
    · refine ⟨v :: vs', ?_⟩
      simp only [List.map_cons, if_pos e, putAt]
      exact .cons r p ih
    · refine ⟨v' :: vs', ?_⟩
      simp only [List.map_cons, if_neg e, putAt]
      exact .cons r' p' ih
theorem En3.app {kvs : List (NestedKey × D)} {xs : List Ent} {vs : List V} (h : En3 K M ι kvs xs vs) {k : NestedKey} {b : Addr} {d : D} {v : V} {u : Value} (r : RelV v u) (p : Rep K M ι d v) : En3 K M ι (kvs ++ [(k, d)]) (xs ++ [(k, b, u)]) (vs ++ [v]) := by
  induction h with
  | nil => exact .cons r p .nil
  | cons r' p' _ ih => exact .cons r' p' ih
theorem mem_getK {kvs : List (NestedKey × D)} {k : NestedKey} (h : getK kvs k = none) : k ∉ kvs.map (·.1) := by
  induction kvs with
  | nil => simp
  | cons p kvs ih =>
    rw [getK_cons] at h
    by_cases e : p.1 = k
    · rw [if_pos e] at h; cases h
    · rw [if_neg e] at h
      simp only [List.map_cons, List.mem_cons, not_or]
      exact ⟨fun z => e z.symm, ih h⟩
theorem Ents.store {kvs : List (NestedKey × D)} {xs : List Ent} {vs : List V} (h : Ents K M ι kvs xs vs) {k : NestedKey} {b : Addr} {d : D} {v : V} {u : Value} (hk : KeyM K M k (.ref b)) (hd : k.depth ≤ 8) (r : RelV v u) (p : Rep K M ι d v) :
    ∃ vs', Ents K M ι (putK kvs k d) (storedH xs k b u) vs' := by
  have t := En3.of h.keys h.vals h.reps
  rcases t.get k with ⟨e1, e2⟩ | ⟨q, d', v', e1, e2, _⟩
  · rw [storedH_new e1]
    unfold putK
    rw [e2, if_neg (by simp)]
    have t2 := t.app (k := k) (b := b) r p
    refine ⟨_, t2.keys, ?_, fun x hx => ?_, t2.vals, t2.reps⟩
    · rw [List.map_append, List.nodup_append]
      refine ⟨h.nd, by simp, fun x hx y hy => ?_⟩
      obtain rfl : y = k := by simpa using hy
      exact fun z => mem_getK e2 (z ▸ hx)
    · rcases List.mem_append.mp hx with q | q
      · exact h.key x q
      · obtain rfl : x = (k, b, u) := by simpa using q
        exact ⟨hk, hd⟩
  · rw [storedH_old e1]
    unfold putK
    rw [e2, if_pos (by simp)]
    obtain ⟨vs', t2⟩ := t.upd (k := k) r p
    refine ⟨vs', t2.keys, ?_, fun x hx => ?_, t2.vals, t2.reps⟩
    · have e : (kvs.map fun z => if z.1 = k then (z.1, d) else z).map (·.1) = kvs.map (·.1) := by
        rw [List.map_map]
        refine List.map_congr_left fun z _ => ?_
        simp only [Function.comp]
        split <;> rfl
      rw [e]; exact h.nd
    · obtain ⟨y, hy, rfl⟩ := List.mem_map.mp hx
      have := h.key y hy
      unfold putAt
      split <;> exact this
end
/-! ### the operations -/
/-- the dict that is asked -/
def dicB (s : Sto) (x y : D) : Option (NestedKey × List (NestedKey × D)) := match y with
  | .ob j => match s[j]? with
    | some (.dic kvs) => match x with
      | .tup ds => match dk (.tup ds) with
        | some k => if k.depth ≤ 8 then some (k, kvs) else none
        | none => none
      | _ => none
    | _ => none
  | _ => none
theorem dic_ask {K : PySem.W.Frag} {M : Hp} {ι : List Addr} {s : Sto} {H : Hp} {x y : D} {u v : V} {k : NestedKey} {kvs : List (NestedKey × D)} (C : Conc K M ι s H) (rx : Rep K M ι x u) (ry : Rep K M ι y v) (e : dicB s x y = some (k, kvs)) :
    ∃ j a b xs vs, y = .ob j ∧ s[j]? = some (.dic kvs) ∧ v = .ref a ∧ ι[j]? = some a ∧ M a = none ∧ H a = some (dicO a xs) ∧ Ents K M ι kvs xs vs ∧ DicAsk K u v H k b a xs ∧ KeyM K M k (.ref b) ∧ u = .ref b := by
  unfold dicB at e
  split at e
  · rename_i j
    split at e
    · rename_i kvs' hj
      split at e
      · rename_i ds
        split at e
        · rename_i k' hk
          split at e
          · rename_i hd
            cases e
            obtain ⟨a, rfl, ha⟩ := ry
            obtain ⟨hM, h0, xs, vs, h1, h2⟩ := C.obs j a _ ha hj
            have q := dk_rep (K := K) (M := M) (rx.f rfl) hk
            obtain ⟨b, ws, rfl, _, _⟩ := rx.tup
            exact ⟨j, a, b, xs, vs, rfl, hj, rfl, ha, hM, h1, h2, ⟨rfl, rfl, h1, h0, ⟨⟨M, C.sub, h2.key⟩, by rw [h2.keys]; exact h2.nd⟩, ⟨M, C.sub, q⟩, hd⟩, q, rfl⟩
          · cases e
        · cases e
      · cases e
    · cases e
  · cases e
def inDk (g : Bool → Bool) : Op2 := fun s x y => match dicB s x y with
  | some (k, kvs) => .val (.bl (g (getK kvs k).isSome)) s
  | none => .stuck
def ixDk : Op2 := fun s y x => match dicB s x y with
  | some (k, kvs) => match getK kvs k with
    | some d => .val d s
    | none => .stuck
  | none => .stuck
theorem ok_inDk {K : PySem.W.Frag} {g : Bool → Bool} : Ok2 K (rInDk K g) (inDk g) := fun Wx M ι s H x y u v Q C rx ry P => by
  unfold inDk at P
  split at P
  · rename_i k kvs e
    obtain ⟨j, a, b, xs, vs, rfl, hj, rfl, ha, hM, h1, h2, q, hk, rfl⟩ := dic_ask C rx ry e
    refine ⟨k, b, a, xs, q, ?_⟩
    have e2 : (atKey xs k).isSome = (getK kvs k).isSome := by
      rcases (En3.of h2.keys h2.vals h2.reps).get k with ⟨e1, e2⟩ | ⟨p, d', v', e1, e2, _⟩ <;> rw [e1, e2] <;> rfl
    rw [e2]
    exact Post.now (C := Rep K) P C rf_bl
  · exact P.elim
theorem ok_ixDk {K : PySem.W.Frag} : Ok2 K (rIxDk K) ixDk := fun Wx M ι s H y x v u Q C ry rx P => by
  unfold ixDk at P
  split at P
  · rename_i k kvs e
    obtain ⟨j, a, b, xs, vs, rfl, hj, rfl, ha, hM, h1, h2, q, hk, rfl⟩ := dic_ask C rx ry e
    split at P
    · rename_i d hd
      rcases (En3.of h2.keys h2.vals h2.reps).get k with ⟨e1, e2⟩ | ⟨p, d', v', e1, e2, r, pp⟩
      · rw [hd] at e2; cases e2
      · rw [hd] at e2; cases e2
        exact ⟨k, b, a, xs, p, v', q, e1, r, Post.now (C := Rep K) P C pp⟩
    · exact P.elim
  · exact P.elim
/-- o[i] = d -/
def setD (fo fi : EF) : GF := fun d δ s => (fo δ s).bind fun y s1 => (fi δ s1).bind fun x s2 => match y with
  | .ob j => match dicB s2 x (.ob j) with
    | some (k, kvs) => if kvs.length ≤ 16000000 then .val δ (s2.set j (.dic (putK kvs k d))) else .stuck
    | none => .stuck
  | _ => .stuck
def dicE : EF := fun _ s => .val (.ob s.length) (s ++ [.dic []])
section
variable {X : Cx} {cl : Nat → Value} {W : WX} {a b e : Expr} {fa fb : EF} {pos : Pos}
theorem je_dicE : JE X cl W (.Dict [] [] pos) dicE := (pe_dnewD (X := X) (pos := pos)).imp fun σ H Q h => by
  obtain ⟨M, ι, δ, s, C, S, P⟩ := h
  intro p hp hs
  obtain ⟨Ca, ta⟩ := C.over (o := dicO p []) hp
  obtain ⟨hM, hι⟩ := C.fresh hp
  have Cc := Ca.join (u := .dic []) hι ⟨hM, hs, [], [], upd_same, ⟨rfl, List.nodup_nil, (fun x hx => nomatch hx), .nil, .nil⟩⟩
  have tc : Step M ι H M (ι ++ [p]) (upd H p (dicO p [])) := by
    refine ⟨ta.mm, fun k a h => ii_app k a h, ta.fr, fun a h => ?_, ta.mn⟩
    rcases List.mem_append.mp h with q | q
    · exact .inl q
    · obtain rfl : a = p := by simpa using q
      exact .inr hp
  exact P _ _ _ _ tc Cc ⟨p, rfl, by rw [← C.len]; simp⟩
theorem jg_setD (hu : X.A.units + 65 < cLine) (ha : JE X cl (fun _ _ _ _ => False) a fa) (hb : JE X cl (fun _ _ _ _ => False) b fb)
    (hs : ∀ v, assign (.Subscript a b pos) X.env v = (do
      let ov ← holding [v] (eval a X.env)
      let iv ← holding [v, ov] (eval b X.env)
      standAt pos
      holding [v, ov, iv] (setItem ov iv v)
      release [v, ov, iv] []) := by intro _; rfl) : JG X (.Subscript a b pos) (setD fa fb) := (pg_sub ha hb (set_Dk hu) hs).imp fun v σ H Q h => by
  obtain ⟨M, ι, δ, s, d, C, S, rd, P⟩ := h
  refine ⟨M, ι, δ, s, C, S, Post.mono (Post.bind (Rep X.K) P) fun o H1 m => ?_⟩
  obtain ⟨M1, ι1, yd, s1, t1, C1, ry, P1⟩ := m.ex
  refine ⟨M1, ι1, δ, s1, C1, S.step t1, Post.mono (Post.bind (Rep X.K) P1) fun i H2 m2 => ?_⟩
  obtain ⟨M2, ι2, xd, s2, t2, C2, rx, P2⟩ := m2.ex
  have ry2 := ry.step t2
  have rd2 := (rd.step t1).step t2
  split at P2
  · rename_i j
    split at P2
    · rename_i k kvs e
      split at P2
      · rename_i hl
        obtain ⟨j', aa, bb, xs, vs, ej, hj, rfl, hja, hM, h1, h2, q, hk, rfl⟩ := dic_ask C2 rx ry2 e
        cases ej
        refine ⟨k, bb, aa, xs, q, by rw [(En3.of h2.keys h2.vals h2.reps).len]; exact hl, fun u ru => ?_⟩
        obtain ⟨vs', E2⟩ := h2.store hk q.dep ru rd2
        obtain ⟨C3, t3⟩ := C2.put (o := dicO aa (storedH xs k bb u)) (u := .dic (putK kvs k d)) hja hM ⟨hM, q.hs, _, vs', upd_same, E2⟩
        exact P2 _ _ _ _ t3 C3 (((S.step t1).step t2).step t3)
      · exact P2.elim
    · exact P2.elim
  · exact P2.elim
end
end Fl
set_option Elab.async false
set_option linter.all false
set_option maxRecDepth 100000
/-! for k, v in d.items(): the dict d is taken for good by the walk. -/
namespace Fl
open PySem PySem.Spec PyProof.Rows L2
/-- the object at a, for good -/
def dicF (a : Addr) (o : Obj) : HO := .ext fun h => h.get? a = some o
def ItD (d : Addr) (o : Obj) (xs : List Ent) (vs : List V) : It :=
  ⟨fun i H => H d = some (dicF d o) ∧ i < xs.length, fun i H v H' => ∃ T x u, v = .ref T ∧ H T = none ∧ H' = upd H T (.tup [.ref x.2.1, u]) ∧ xs[i]? = some x ∧ vs[i]? = some u, fun i H => H d = some (dicF d o) ∧ i = xs.length⟩
section
variable {P : Program} {w : World} {K : PySem.W.Frag} {elts : List Expr} {kk : Nat} {tpos : Pos} {d it : Addr} {o : Obj} {es : Array DictEntry} {ep : Nat} {xs : List Ent} {vs : List V}
theorem turn_dic (hx : o.ExactDict) (hod : o.data = .dict es ep) (he : es.toList = xs.map ent) (hv : Vals vs (xs.map (·.2.2))) (hne : d ≠ it) :
    Turn P w K (.Tuple elts kk tpos) (ItD d o xs vs) [it] it (fun i h => ∃ ok ov, IsItemIter h it d i es.size ep ok ov) where
  mem := List.mem_singleton.mpr rfl
  obj := fun i h st b hb => by
    obtain rfl : b = it := by simpa using hb
    obtain ⟨ok, ov, z⟩ := st
    exact ⟨_, z, fun v q => nomatch q⟩
  keep := fun i h h' st q => let ⟨ok, ov, z⟩ := st; ⟨ok, ov, q it (List.mem_singleton.mpr rfl) _ z⟩
  item := by
    intro X hP hw hK hc i pins s σ H E I hf st hg
    subst hP hw hK
    obtain ⟨hd, hi⟩ := hg
    have hdo : s.heap.get? d = some o := (I.hok d _ hd).1
    have hsz : es.size = xs.length := by
      have := congrArg List.length he
      simpa using this
    have hlt : it < s.heap.objs.size := by
      obtain ⟨_, _, z⟩ := st
      exact Heap.lt_size z
    have W := GoesN.ofWalksT (elts := elts) (k := kk) (pos := tpos) (WalksT.rawItems (prog := X.prog) (w := X.w) (A := X.A) (I.ok.hd hc) it d hne es ep)
    refine W.goes i s (fun u s2 => ∃ x H', Inv X pins σ H' s2 ∧ RelV x u ∧ (ItD d o xs vs).yld i H x H' ∧ (∃ ok ov, IsItemIter s2.heap it d (i + 1) es.size ep ok ov) ∧ ∀ b ∈ [it], H' b = none) E (by omega) ⟨st, o, hdo, hx, hod⟩ fun v h' tk hY st' hk _ => ?_
    obtain ⟨T, vals, rfl, hT, ⟨hi2, rfl⟩, hTup⟩ := hY
    have hei : es[i] = ent xs[i] := by
      have := congrArg (fun l => l[i]?) he
      simp only [Array.getElem?_toList, List.getElem?_map] at this
      rw [Array.getElem?_eq_getElem hi2, List.getElem?_eq_getElem hi] at this
      exact Option.some.inj this
    rw [hei] at hTup
    have hvl : i < vs.length := by rw [hv.length, List.length_map]; exact hi
    obtain ⟨u, hu, ru⟩ := hv.get (List.getElem?_eq_getElem hvl)
    rw [List.getElem?_map, List.getElem?_eq_getElem hi] at hu
    obtain rfl : xs[i].2.2 = u := Option.some.inj hu
    have new : L2.ObjOk X.prog X.w (upd H T (.tup [.ref xs[i].2.1, vs[i]])) h' T (.tup [.ref xs[i].2.1, vs[i]]) :=
      ⟨by show 2 ≤ sizeLine; decide, [.ref xs[i].2.1, xs[i].2.2], .cons rfl (.cons ru .nil), by obtain ⟨o, q1, q2, n, q3⟩ := hTup; exact ⟨o, q1, q2, n, q3⟩⟩
    have I1 : Inv X pins σ (upd H T (.tup [.ref xs[i].2.1, vs[i]])) { s with heap := h', toks := tk } := I.turnedNew (ch := [it]) (fun c o' hb q => hk c o' hb q) hf hT new
    refine ⟨.ref T, _, I1, rfl, ⟨T, xs[i], vs[i], rfl, I.hok.fresh hT, rfl, List.getElem?_eq_getElem hi, List.getElem?_eq_getElem hvl⟩, st'.1, fun c hcm => ?_⟩
    obtain rfl : c = it := by simpa using hcm
    rw [upd_ne (Nat.ne_of_lt (Nat.lt_of_lt_of_le hlt hT))]
    exact (hf c hcm).1
  done := by
    intro X hP hw hK hc i pins s σ H E I hf st hg
    subst hP hw hK
    obtain ⟨hd, hi⟩ := hg
    subst hi
    have hdo : s.heap.get? d = some o := (I.hok d _ hd).1
    have hsz : es.size = xs.length := by
      have := congrArg List.length he
      simpa using this
    rw [← hsz] at st
    have W := GoesN.ofWalksT (elts := elts) (k := kk) (pos := tpos) (WalksT.rawItems (prog := X.prog) (w := X.w) (A := X.A) (I.ok.hd hc) it d hne es ep)
    exact W.stops s (fun s2 => Inv X pins σ H s2) E ⟨st, o, hdo, hx, hod⟩ fun h' tk hk _ => I.turnedL (ch := [it]) (fun c o' hb q => hk c o' hb q) hf
  self := fun A i s Q E st h => by
    obtain ⟨ok, ov, z⟩ := st
    exact wpAny_pyIter_itemiter z h
end
def iDic (td : TE) : TI := fun σ H R => td σ H fun x H1 => ∃ d xs vs, x = .ref d ∧ H1 d = some (dicO d xs) ∧ (d == sysModules) = false ∧ Vals vs (xs.map (·.2.2)) ∧ ∀ o, R (ItD d o xs vs) (upd H1 d (dicF d o))
section
variable {X : Cx} {e : Expr} {td : TE} {apos cpos tpos : Pos} {elts : List Expr} {kk : Nat}
theorem pi_dic (he : PE X e td) (hbase : attributeBase e "items" X.env (eval e X.env) = eval e X.env := by rfl) (hline : (apos.endLine == cpos.line) = true := by rfl) :
    PI X (.Tuple elts kk tpos) (.Call (.Attribute e "items" apos) [] [] cpos) (iDic td) := by
  refine ⟨fun pins s σ H R I h => ?_⟩
  refine wpAny_Call_method (T := "dict") (id := "dict.items") hbase rfl hline F.plainAttrs_dict F.slot_dict_items F.type_dict_items (thn (he.run pins s σ H _ I h) fun u s1 ⟨x, H1, I1, rx, d, xs, vs, ex, hd, hs, hv, q⟩ => ?_)
  subst ex
  obtain rfl : u = Value.ref d := rx
  obtain ⟨o, es, ep, h1, h2, h3, h4⟩ := dic_at I1 hd
  have hT : s1.TypeIs (.ref d) "dict" := ⟨o, h1, h2.1⟩
  refine ⟨hT, fun a z => by cases z; exact ⟨o, h1, h2.2.1⟩, ?_⟩
  have IF : Inv X pins σ (upd H1 d (dicF d o)) s1 := by
    have := I1.write (x := d) (e := d) (o := dicF d o) (h' := s1.heap) (t' := s1.toks) (by rw [hd]; exact True.intro) (.inl rfl) (fun c o' hb z => z) ⟨o, h1⟩ ⟨h1, ⟨o, h1⟩, fun g1 g2 z k => k o z⟩
    exact this
  have I2 : Inv X pins σ (upd H1 d (dicF d o)) { s1 with heap := s1.heap.push { cls := .type "dict_items", data := .fields #[.ref d] } } := IF.kept (t' := s1.toks) fun b ob z => Heap.get?_push_of_some _ z
  have hd2 : (s1.heap.push { cls := .type "dict_items", data := .fields #[.ref d] }).get? d = some o := Heap.get?_push_of_some _ h1
  have hlt : d < (s1.heap.push { cls := .type "dict_items", data := .fields #[.ref d] }).objs.size := Heap.lt_size hd2
  have fin : wpAny (model X.prog X.w) X.A (pyIter (.ref s1.heap.objs.size)) (PIE X pins σ (.Tuple elts kk tpos) R) X.xe { s1 with heap := s1.heap.push { cls := .type "dict_items", data := .fields #[.ref d] } } := by
    refine wpAny_pyIter_items_raw (d := d) (es := es) (ep := ep) ⟨_, Heap.get?_push_size _ rfl, rfl, rfl⟩ ⟨o, hd2, h2, h3⟩ (pi_one (tk := s1.toks) I2 _ (turn_dic h2 h3 h4 hv (Nat.ne_of_lt hlt)) ⟨.none, .none, ?_⟩ (q o))
    exact Heap.get?_push_size _ rfl
  show wpAny _ _ (callWith cpos (.builtin "dict.items") [.ref d] [] []) _ X.xe s1
  exact method_meetsIn F.slot_dict_items F.entry_dict_items rfl (PySem.evalArgs_none ⟨rfl, hT, F.args_dict_items_1 _, _, meets_dict_items_raw d hs, ⟨⟨es, ep, o, h1, h2, h3⟩, fin⟩⟩)
end
/-! ### as data -/
section
variable {K : PySem.W.Frag} {M : Hp} {ι : List Addr} {s : Sto} {H : Hp}
/-- a thing of the store, given away for good -/
theorem Conc.seal (C : Conc K M ι s H) {k : Nat} {a : Addr} {o : HO} (hk : ι[k]? = some a) (hM : M a = none) : Conc K (upd M a o) ι (s.set k .dead) (upd H a o) ∧ Step M ι H (upd M a o) ι (upd H a o) := by
  obtain ⟨C1, t1⟩ := C.put (o := o) (u := .dead) hk hM (by show upd H a o a ≠ none; rw [upd_same]; simp)
  constructor
  · refine ⟨fun b u e => ?_, C1.len, C1.nd, fun j b u e1 e2 => ?_⟩
    · by_cases q : b = a
      · subst q; rw [upd_same] at e ⊢; exact e
      · rw [upd_ne q] at e; exact C1.sub b u e
    · by_cases hj : j = k
      · subst hj
        have hl : j < s.length := by have := (List.getElem?_eq_some_iff.mp hk).1; rw [C.len] at this; exact this
        rw [List.getElem?_set_self hl] at e2; cases e2
        rw [hk] at e1; cases e1
        show upd H a o a ≠ none
        rw [upd_same]; simp
      · have ne : b ≠ a := by
          rintro rfl
          obtain ⟨h1, q1⟩ := List.getElem?_eq_some_iff.mp e1
          obtain ⟨h2, q2⟩ := List.getElem?_eq_some_iff.mp hk
          exact hj ((List.getElem_inj C.nd).mp (q1.trans q2.symm))
        exact (C1.obs j b u e1 e2).keep (Ex.new hM) (fun _ _ q => q) (fun u q => q) (fun q => by rw [upd_ne ne]; exact q)
  · refine ⟨Ex.new hM, fun _ _ h => h, t1.fr, fun _ h => .inl h, fun b e => ?_⟩
    by_cases q : b = a
    · subst q; exact .inr (.inl (List.mem_of_getElem? hk))
    · rw [upd_ne q] at e; exact .inl e
theorem itOk_dic {a : Addr} {o : Obj} {kvs : List (NestedKey × D)} {xs : List Ent} {vs : List V} (hd : M a = some (dicF a o)) (hk : ∀ x ∈ xs, KeyM K M x.1 (.ref x.2.1)) (hx : xs.map (·.1) = kvs.map (·.1)) (hv : vs.length = xs.length) (r : RepL K M (kvs.map (·.2)) vs) :
    ItOk K M (ItD a o xs vs) (kvs.map fun p => D.tup [kd p.1, p.2]) := by
  intro i M1 ι1 s1 H1 e C
  have e1 : Ex M H1 := Ex.trans e C.sub
  have hl : xs.length = kvs.length := by have := congrArg List.length hx; simpa using this
  constructor
  · intro d hdd
    rw [List.getElem?_map] at hdd
    obtain ⟨p, hp, rfl⟩ := Option.map_eq_some_iff.mp hdd
    have hi : i < xs.length := by rw [hl]; exact (List.getElem?_eq_some_iff.mp hp).1
    refine ⟨⟨e1 _ _ hd, hi⟩, fun v' H2 y => ?_⟩
    obtain ⟨T, x, u, rfl, hT, rfl, hxi, hui⟩ := y
    have hkey : x.1 = p.1 := by
      have := congrArg (fun l => l[i]?) hx
      simp only [List.getElem?_map, hxi, hp] at this
      exact Option.some.inj this
    obtain ⟨C2, t2⟩ := C.laid (o := .tup [.ref x.2.1, u]) hT
    obtain ⟨dx, h1, h2⟩ := r.getV hui
    rw [List.getElem?_map, hp] at h1
    obtain rfl : p.2 = dx := Option.some.inj h1
    have h3 := KeyM.rep (hk x (List.mem_of_getElem? hxi))
    rw [hkey] at h3
    exact ⟨_, t2, C2, Rep.of (by unfold RepF; exact ⟨T, _, rfl, .inl upd_same, .cons ((h3.mono e).mono t2.mm) (.cons ((h2.mono e).mono t2.mm) .nil)⟩)⟩
  · intro hi
    exact ⟨e1 _ _ hd, by rw [hi, hl, List.length_map]⟩
end
def walkD (fa : EF) : AF := fun δ s => (fa δ s).bind fun x s1 => match x with
  | .ob j => match s1[j]? with
    | some (.dic kvs) => if flats (kvs.map (·.2)) = true then .val (kvs.map fun p => D.tup [kd p.1, p.2]) (s1.set j .dead) else .stuck
    | _ => .stuck
  | _ => .stuck
theorem ji_dic {X : Cx} {cl : Nat → Value} {W : WX} {e : Expr} {fa : EF} {apos cpos tpos : Pos} {elts : List Expr} {kk : Nat} (he : JE X cl W e fa) (hbase : attributeBase e "items" X.env (eval e X.env) = eval e X.env := by rfl) (hline : (apos.endLine == cpos.line) = true := by rfl) :
    JI X cl W (.Tuple elts kk tpos) (.Call (.Attribute e "items" apos) [] [] cpos) (walkD fa) := (pi_dic he hbase hline).imp fun σ H R h => by
  obtain ⟨M, ι, δ, s, C, S, P⟩ := h
  refine ⟨M, ι, δ, s, C, S, Post.mono (Post.bind (Rep X.K) P) fun u H1 m => ?_⟩
  obtain ⟨M1, ι1, x, s1, t1, C1, r1, P1⟩ := m.ex
  split at P1
  · rename_i j
    split at P1
    · rename_i kvs hj
      split at P1
      · rename_i hf
        obtain ⟨a, rfl, ha⟩ := r1
        obtain ⟨hM, h0, xs, vs, h1, h2⟩ := C1.obs j a _ ha hj
        refine ⟨a, xs, vs, rfl, h1, h0, h2.vals, fun o => ?_⟩
        obtain ⟨C2, t2⟩ := C1.seal (o := dicF a o) ha hM
        refine P1 _ _ _ _ t2 C2 (itOk_dic upd_same (fun x hx => (h2.key x hx).1.mono t2.mm) h2.keys ?_ ((h2.reps.flat hf).mono t2.mm))
        rw [h2.vals.length, List.length_map]
      · exact P1.elim
    · exact P1.elim
  · exact P1.elim
end Fl
set_option Elab.async false
set_option linter.all false
set_option maxRecDepth 100000
/-! a tuple, 0 or 1 times. -/
namespace Fl
open PySem PySem.Spec PyProof.Rows L2
section
variable (l : Addr) (its : Array Value) (n : Nat) (dd : Option Addr) (sl : Array (Option Value)) (u : Tok)
theorem tmul_none (hne : its.isEmpty = false) : Meets (Builtin.«tuple.__mul__» ⟨[.ref l, .int 0 u], []⟩) (fun _ R s => s.heap.get? l = some { cls := .type "tuple", dict := dd, data := .seq its n, slots := sl } ∧
      R (.ok (.ret (Value.ref s.heap.objs.size))) { s with heap := s.heap.push { cls := .type "tuple", data := .seq #[] }, toks := s.toks }) :=
  .of_wp fun prog w A R s hh => by
    obtain ⟨hp, g, d, tk, os⟩ := s
    obtain ⟨hl, hh⟩ := hh
    have ix := AutoSeq1.idx_int
    wp_walk using AutoSeq1.wpAny_loadPart' hl
    repeat (first
      | (refine wpAny_ite_false (decide_eq_false (by rw [hne]; decide)) ?_; wp_walk using AutoSeq1.wpAny_loadPart' hl)
      | (refine wpAny_ite_false (decide_eq_false (by decide)) ?_; wp_walk using AutoSeq1.wpAny_loadPart' hl)
      | (refine wpAny_ite_true (decide_eq_true (by simp)) ?_; wp_walk using AutoSeq1.wpAny_loadPart' hl))
    exact ⟨_, rfl, hh⟩
theorem tmul_once : Meets (Builtin.«tuple.__mul__» ⟨[.ref l, .int 1 u], []⟩) (fun _ R s => s.heap.get? l = some { cls := .type "tuple", dict := dd, data := .seq its n, slots := sl } ∧
      R (.ok (.ret (Value.ref l))) s) :=
  .of_wp fun prog w A R s hh => by
    obtain ⟨hp, g, d, tk, os⟩ := s
    obtain ⟨hl, hh⟩ := hh
    have ix := AutoSeq1.idx_int
    wp_walk using AutoSeq1.wpAny_loadPart' hl
    repeat (first
      | (refine wpAny_ite_false (decide_eq_false (by decide)) ?_; wp_walk using AutoSeq1.wpAny_loadPart' hl)
      | (refine wpAny_ite_true (decide_eq_true (by simp)) ?_; wp_walk using AutoSeq1.wpAny_loadPart' hl))
    exact ⟨_, rfl, hh⟩
end
def rRep01 (K : PySem.W.Frag) : R2 := fun x y H Q => ∃ l k xs, x = .ref l ∧ y = .int k ∧ SqT K H l xs ∧ xs ≠ [] ∧ ((k = 0 ∧ ∀ p, H p = none → Q (.ref p) (upd H p (.tup []))) ∨ (k = 1 ∧ Q (.ref l) H))
theorem op_rep01 {X : Cx} : OpR X (binaryOp .Mult) (rRep01 X.K) := by
  intro pins s σ H x y v w I' I rx ry hh
  obtain ⟨l, k, xs, rfl, rfl, hT, hne, q⟩ := hh
  obtain rfl : v = Value.ref l := rx
  obtain ⟨t, rfl⟩ := ry
  obtain ⟨its, r, ⟨⟨cls, dd, data, sl⟩, ho, hc, n, hd⟩, hs⟩ := I.tuple hT
  have hc' : cls = .type "tuple" := hc
  have hd' : data = .seq its.toArray n := hd
  subst hc' hd'
  have hi : its.toArray.isEmpty = false := by
    cases its with
    | nil => cases r; exact absurd rfl hne
    | cons a b => rfl
  have hTT : s.TypeIs (.ref l) "tuple" := ⟨_, ho, rfl⟩
  rcases q with ⟨rfl, q⟩ | ⟨rfl, q⟩
  · refine wpAny_binaryOp_repeat_ref (T := "tuple") (U := "int") (by decide) hTT (fun s' => typeIs_int s' 0 t) noFill_tuple_mul F.fills_int_mul F.slot_int_rmul repeat_tuple F.slot_int_index.lookup
      (call_meets F.slot_int_rmul (typeIs_int s 0 t) F.entry_int_rmul (F.args_int_rmul_2 _ _) (int_rmul_tuple 0 t l its.toArray n dd sl) ⟨ho, rfl, hTT, call_meets F.slot_tuple_mul hTT F.entry_tuple_mul (F.args_tuple_mul_2 _ _) (tmul_none l its.toArray n dd sl t hi) ⟨ho, ?_⟩⟩)
    have hg := Heap.get?_push_size s.heap (o := { cls := .type "tuple", data := .seq #[] }) rfl
    exact ⟨.ref s.heap.objs.size, _, I.laid (a := s.heap.objs.size) (o := .tup []) (t' := s.toks) (fun b u z => Heap.get?_push_of_some _ z) (Nat.le_refl _) ⟨by rw [sizeLine_eq]; exact Nat.zero_le _, [], .nil, ⟨_, hg, rfl, _, rfl⟩⟩, rfl, q _ (I.hok.fresh (Nat.le_refl _))⟩
  · refine wpAny_binaryOp_repeat_ref (T := "tuple") (U := "int") (by decide) hTT (fun s' => typeIs_int s' 1 t) noFill_tuple_mul F.fills_int_mul F.slot_int_rmul repeat_tuple F.slot_int_index.lookup
      (call_meets F.slot_int_rmul (typeIs_int s 1 t) F.entry_int_rmul (F.args_int_rmul_2 _ _) (int_rmul_tuple 1 t l its.toArray n dd sl) ⟨ho, rfl, hTT, call_meets F.slot_tuple_mul hTT F.entry_tuple_mul (F.args_tuple_mul_2 _ _) (tmul_once l its.toArray n dd sl t) ⟨ho, ?_⟩⟩)
    exact ⟨.ref l, H, I, rfl, q⟩
/-- a tuple, k times -/
def mulT : Op2 := fun s x y => match x, y with
  | .tup a, .int k => if 0 < a.length ∧ a.length ≤ 1000 ∧ 0 ≤ k ∧ k ≤ 1000 then .val (.tup (List.replicate k.toNat a).flatten) s else .stuck
  | _, _ => .stuck
def rMulT (K : PySem.W.Frag) : R2 := fun x y H Q => rRepT K x y H Q ∨ rRep01 K x y H Q
theorem op_mulT {X : Cx} : OpR X (binaryOp .Mult) (rMulT X.K) := op_repT.or op_rep01
theorem ok_mulT {K : PySem.W.Frag} : Ok2 K (rMulT K) mulT := fun Wx M ι s H x y u v Q C rx ry P => by
  unfold mulT at P
  split at P
  · rename_i a k
    split at P
    · rename_i hc
      obtain ⟨p, vs, rfl, h1, r1⟩ := rx.tup
      have hlen := r1.length
      have hne : vs ≠ [] := fun e => by rw [e] at hlen; simp at hlen; omega
      by_cases h2 : 2 ≤ k
      · exact .inl ⟨p, k, vs, rfl, ry.int, Ex.t C.sub h1.sq, hne, h2, hc.2.2.2, by rw [hlen]; exact hc.2.1, fun l hl => Post.laidT P C (r1.rep _) hl⟩
      · refine .inr ⟨p, k, vs, rfl, ry.int, Ex.t C.sub h1.sq, hne, ?_⟩
        by_cases h0 : k = 0
        · subst h0
          exact .inl ⟨rfl, fun l hl => Post.laidT P C .nil hl⟩
        · obtain rfl : k = 1 := by omega
          have e : (List.replicate (1 : Int).toNat a).flatten = a := by simp
          rw [e] at P
          exact .inr ⟨rfl, Post.now (C := Rep K) P C (Rep.of (by unfold RepF; exact ⟨p, vs, rfl, h1, r1⟩))⟩
    · exact P.elim
  · exact P.elim
end Fl
set_option Elab.async false
set_option linter.all false
set_option maxRecDepth 100000
/-! {k: v}, of one's own. -/
namespace Fl
open PySem PySem.Spec PyProof.Rows L2
def tDic1 (K : PySem.W.Frag) (tk tv : TE) : TE := fun σ H Q => ∀ p, H p = none → (p == sysModules) = false → tk σ (upd H p (dicO p [])) fun x H1 => tv σ H1 fun y H2 =>
  H2 p = some (dicO p []) ∧ ∃ k b, x = .ref b ∧ (∃ M, Ex M H2 ∧ KeyM K M k x) ∧ k.depth ≤ 8 ∧ ∀ u, RelV y u → Q (.ref p) (upd H2 p (dicO p [(k, b, u)]))
theorem dic_new {P : Program} {w : World} {H : Hp} {h : Heap} {a : Addr} {xs : List Ent} {o : Obj} {es : Array DictEntry} {ep : Nat} (h1 : h.get? a = some o) (h2 : o.ExactDict) (h3 : o.data = .dict es ep) (h4 : es.toList = xs.map ent) : L2.ObjOk P w H h a (dicO a xs) :=
  ⟨⟨o, es, ep, h1, h2, h3, h4⟩, ⟨o, h1⟩, fun g1 g2 q z => by
    obtain ⟨o', es', ep', w1, w2⟩ := q
    exact ⟨o', es', ep', z _ w1, w2⟩⟩
theorem pe_dic1 {X : Cx} {pos : Pos} {k v : Expr} {tk tv : TE} (hu : X.A.units + 65 < cLine) (hk : PE X k tk) (hv : PE X v tv) : PE X (.Dict [some k] [v] pos) (tDic1 X.K tk tv) := by
  refine ⟨fun pins s σ H Q I q => ?_⟩
  have hn := I.hok.fresh (Nat.le_refl s.heap.objs.size)
  have e0 := Heap.get?_push_size s.heap (o := { cls := .type "dict", data := .dict #[] }) rfl
  have I1 := I.laid (a := s.heap.objs.size) (o := dicO s.heap.objs.size []) (h' := s.heap.push { cls := .type "dict", data := .dict #[] }) (t' := s.toks) (fun b u z => Heap.get?_push_of_some _ z) (Nat.le_refl _) (dic_new e0 ⟨rfl, rfl, rfl⟩ rfl rfl)
  have q1 := q _ hn (beq_eq_false_iff_ne.mpr (Ne.symm (Nat.ne_of_lt I.big)))
  have hp : (evalEachOpt [some k] X.env).zip ((evalEach [v] X.env).map fun v => do let x ← v; standAt pos; pure x) = (pairTrees [some k] [v] X.env pos).map fun p => (some p.1, p.2) := by rfl
  rw [arm_eval_Dict, hp, dictDisplay_pairs _ (by intro z; cases z) (by show 1 < 17; decide)]
  refine wpAny_bind (wpAny_standAt (wpAny_bind (wpAny_subDictH (knd := nestedKind X.prog X.w) (by show X.A.units + 8 < cLine; omega) (by show 1 ≤ 15; decide) (thn ((pps_cons (pos := pos) hk hv pps_nil).run pins _ σ _ (fun ps H2 => match ps with
    | [(x, y)] => H2 s.heap.objs.size = some (dicO s.heap.objs.size []) ∧ ∃ k b, x = .ref b ∧ (∃ M, Ex M H2 ∧ KeyM X.K M k x) ∧ k.depth ≤ 8 ∧ ∀ u, RelV y u → Q (.ref s.heap.objs.size) (upd H2 s.heap.objs.size (dicO s.heap.objs.size [(k, b, u)]))
    | _ => False) I1 q1) fun ws s2 hh => ?_))))
  obtain ⟨ps, H2, I2, rel, hq⟩ := hh
  cases rel with
  | nil => exact hq.elim
  | @cons p q ps qs r t =>
    cases t with
    | cons _ _ => exact hq.elim
    | nil =>
      obtain ⟨x, y⟩ := p
      obtain ⟨xv, yv⟩ := q
      obtain ⟨hd, k, b, rfl, ⟨M, m, hkm⟩, hdep, fin⟩ := hq
      obtain ⟨rx, ry⟩ := r
      obtain rfl : xv = Value.ref b := rx
      have hkk : (nestedKind X.prog X.w).is s2.heap k b := ⟨KeyM.is m I2.hok I2.kIn hkm rfl, hdep⟩
      have hk0 : KeysOk X.K H2 [] := ⟨⟨M, m, fun z hz => nomatch hz⟩, List.nodup_nil⟩
      refine ⟨[(k, b, yv)], ⟨rfl, rfl, hkk, trivial⟩, dic_of I2 hd hk0, fun h' tk2 hm' sb => wpAny_pure ⟨.ref s.heap.objs.size, _, ?_, rfl, fin yv ry⟩⟩
      obtain ⟨o, es, ep, g1, g2, g3, g4, g5, g6⟩ := hm'
      have hst : storedAllH [] [(k, b, yv)] = [(k, b, yv)] := rfl
      rw [hst] at g4
      refine I2.write (x := s.heap.objs.size) (e := s.heap.objs.size) (o := dicO s.heap.objs.size [(k, b, yv)]) (by rw [hd]; exact True.intro) (.inl rfl) (fun c o' hb z => (sb.2 c hb).trans z) ⟨o, g1⟩ (dic_new g1 g2 g3 ?_)
      rw [g4]
      show [(⟨NestedKey.hash X.w k, .ref b, yv⟩ : DictEntry)] = [⟨hsh k, .ref b, yv⟩]
      rw [hsh_eq X.w k hkm.ntx]
def dic1E (fk fv : EF) : EF := fun δ s => (fk δ s).bind fun x s1 => (fv δ s1).bind fun y s2 => match x with
  | .tup ds => match dk (.tup ds) with
    | some k => if k.depth ≤ 8 then .val (.ob s2.length) (s2 ++ [.dic [(k, y)]]) else .stuck
    | none => .stuck
  | _ => .stuck
theorem je_dic1 {X : Cx} {cl : Nat → Value} {W : WX} {k v : Expr} {fk fv : EF} {pos : Pos} (hu : X.A.units + 65 < cLine) (hk : JE X cl W k fk) (hv : JE X cl W v fv) : JE X cl W (.Dict [some k] [v] pos) (dic1E fk fv) := (pe_dic1 hu hk hv).imp fun σ H Q h => by
  obtain ⟨M, ι, δ, s, C, S, P⟩ := h
  intro p hp hs
  obtain ⟨hM, hι⟩ := C.fresh hp
  obtain ⟨Ca, ta⟩ := C.over (o := dicO p []) hp
  refine ⟨M, ι, δ, s, Ca, S.step ta, ?_⟩
  unfold dic1E at P
  revert P
  cases hfk : fk δ s with
  | stuck => exact fun P => P
  | exc c s' => exact fun P M' ι' H' t q => P M' ι' H' (ta.trans t) q
  | val xd s1 =>
    intro P M1 ι1 H1 x t1 C1 rx
    simp only [O.bind_val] at P
    refine ⟨M1, ι1, δ, s1, C1, (S.step ta).step t1, ?_⟩
    revert P
    cases hfv : fv δ s1 with
    | stuck => exact fun P => P
    | exc c s' => exact fun P M' ι' H' t q => P M' ι' H' ((ta.trans t1).trans t) q
    | val yd s2 =>
      intro P M2 ι2 H2 y t2 C2 ry
      simp only [O.bind_val] at P
      have t12 := t1.trans t2
      have hH2 : H2 p = some (dicO p []) := t12.fr p _ upd_same hι
      have hι2 : p ∉ ι2 := fun z => by
        rcases t12.im p z with q | q
        · exact hι q
        · rw [upd_same] at q; cases q
      have hM2 : M2 p = none := by
        by_cases z : M2 p = none
        · exact z
        · rcases t12.mn p z with q | q | q
          · exact absurd hM q
          · exact absurd q hι
          · rw [upd_same] at q; cases q
      refine ⟨hH2, ?_⟩
      split at P
      · rename_i ds
        split at P
        · rename_i kk hkk
          split at P
          · rename_i hdep
            have rx2 := rx.step t2
            have q := dk_rep (K := X.K) (M := M2) (rx2.f rfl) hkk
            obtain ⟨b, ws, rfl, _, _⟩ := rx2.tup
            refine ⟨kk, b, rfl, ⟨M2, C2.sub, q⟩, hdep, fun u ru => ?_⟩
            have C3 := C2.own (o := dicO p [(kk, b, u)]) hM2 hι2
            have E1 : Ents X.K M2 ι2 [(kk, yd)] [(kk, b, u)] [y] := ⟨rfl, by simp, (fun z hz => by
              obtain rfl : z = (kk, b, u) := by simpa using hz
              exact ⟨q, hdep⟩), .cons ru .nil, .cons ry .nil⟩
            have C4 := C3.join (u := .dic [(kk, yd)]) hι2 ⟨hM2, hs, _, _, upd_same, E1.mono (Ex.refl _) ii_app⟩
            have t4 : Step M ι H M2 (ι2 ++ [p]) (upd H2 p (dicO p [(kk, b, u)])) := by
              have t0 := ta.trans t12
              refine ⟨t0.mm, fun k a h => ii_app k a (t0.ii k a h), fun a o e n => ?_, fun a h => ?_, t0.mn⟩
              · rw [upd_ne (ne_of_none e hp)]; exact t0.fr a o e n
              · rcases List.mem_append.mp h with z | z
                · exact t0.im a z
                · obtain rfl : a = p := by simpa using z
                  exact .inr hp
            exact P _ _ _ _ t4 C4 ⟨p, rfl, by rw [← C2.len]; simp⟩
          · exact P.elim
        · exact P.elim
      · exact P.elim
end Fl
set_option Elab.async false
set_option linter.all false
set_option maxRecDepth 100000
/-! sorted([ints]); texts in order. -/
namespace Fl
open PySem PySem.Spec PyProof.Rows L2
theorem perm_srt : ∀ {xs ys : List Int}, xs.Perm ys → xs.Pairwise (· ≤ ·) → ys.Pairwise (· ≤ ·) → xs = ys
  | [], ys, h, _, _ => (List.Perm.nil_eq h)
  | x :: xs, [], h, _, _ => by have := h.length_eq; simp at this
  | x :: xs, y :: ys, h, h1, h2 => by
    have g1 := List.pairwise_cons.mp h1
    have g2 := List.pairwise_cons.mp h2
    have e : x = y := by
      have m1 : y ∈ x :: xs := h.mem_iff.mpr (List.mem_cons_self ..)
      have m2 : x ∈ y :: ys := h.mem_iff.mp (List.mem_cons_self ..)
      have a1 : x ≤ y := by
        rcases List.mem_cons.mp m1 with q | q
        · omega
        · exact g1.1 y q
      have a2 : y ≤ x := by
        rcases List.mem_cons.mp m2 with q | q
        · omega
        · exact g2.1 x q
      omega
    subst e
    rw [perm_srt (List.Perm.cons_inv h) g1.2 g2.2]
open Classical in
/-- the numbers in order -/
noncomputable def ordI (ns : List Int) : List Int := if h : ∃ zs : List Int, zs.Perm ns ∧ zs.Pairwise (· ≤ ·) then h.choose else ns
theorem ordI_eq {ns zs : List Int} (h1 : zs.Perm ns) (h2 : zs.Pairwise (· ≤ ·)) : ordI ns = zs := by
  have h : ∃ zs : List Int, zs.Perm ns ∧ zs.Pairwise (· ≤ ·) := ⟨zs, h1, h2⟩
  unfold ordI
  rw [dif_pos h]
  exact perm_srt (h.choose_spec.1.trans h1.symm) h.choose_spec.2 h2
noncomputable def ordG (s : Sto) : List D → O D
  | [x] => match view s x with
    | .lst ds => match intsD ds with
      | some ns => .val (.lst ((ordI ns).map .int)) s
      | none => .stuck
    | _ => .stuck
  | _ => .stuck
theorem ok_ord {K : PySem.W.Frag} : OkN K (rSortedI K) ordG := fun Wx M ι s H xs us Q C r P => by
  unfold ordG at P
  split at P
  · obtain ⟨u, rfl, rx⟩ := r.one
    have s1 := C.sees rx
    split at P
    · rename_i ds e
      rw [e] at s1
      split at P
      · rename_i ns hn
        obtain ⟨a, vs, rfl, h1, r1⟩ := s1
        obtain rfl := ints_v r1 hn
        exact ⟨a, ns, rfl, SqL.of h1, fun ns' p q1 q2 hp => by
          rw [ordI_eq q1 q2] at P
          exact Post.laidL P C (RepL.ints ns') hp⟩
      · exact P.elim
    · exact P.elim
  · exact P.elim
/-- texts in order -/
def ltS : Op2 := fun s x y => match x, y with
  | .str a, .str b => .val (.bl (decide (a < b))) s
  | _, _ => .stuck
def rLtS : R2 := fun x y H Q => ∃ i j, x = .str i ∧ y = .str j ∧ Q (.bl (decide (i.cps.toList < j.cps.toList))) H
theorem op_ltS {X : Cx} : OpR X (compareOp .Lt) rLtS := op_lt_str
theorem ok_ltS {K : PySem.W.Frag} : Ok2 K rLtS ltS := fun Wx M ι s H x y u v Q C rx ry P => by
  unfold ltS at P
  split at P
  · rename_i a b
    obtain ⟨rfl, _⟩ := rx.str
    obtain ⟨rfl, _⟩ := ry.str
    exact ⟨_, _, rfl, rfl, Post.now (C := Rep K) P C rf_bl⟩
  · exact P.elim
end Fl
set_option Elab.async false
set_option linter.all false
set_option maxRecDepth 100000
/-! comprehensions with two fors; range of three; list.count. -/
namespace Fl
open PySem PySem.Spec PyProof.Rows L2
def loop2 (g : GF) (t : BF) (fi1 : AF) (vs1 : List Nat) (g1 : GF) (t1 : BF) (e : EF) (δ : Sl) : List D → List D → Sto → O (List D)
  | [], acc, s => .val acc s
  | x :: xs, acc, s => (noX (g x δ s)).bind fun δ1 s1 => (quiet (t δ1 s1)).bind fun b s2 =>
    if b = true then (quiet (fi1 δ1 s2)).bind fun ys s3 => (loopQ flat g1 t1 e (wipeD δ1 vs1) ys acc s3).bind fun acc' s4 => loop2 g t fi1 vs1 g1 t1 e δ xs acc' s4
    else loop2 g t fi1 vs1 g1 t1 e δ xs acc s2
def comp2F (fi : AF) (vs : List Nat) (g : GF) (t : BF) (fi1 : AF) (vs1 : List Nat) (g1 : GF) (t1 : BF) (e : EF) : EF := fun δ s => (fi δ s).bind fun xs s1 => (loop2 g t fi1 vs1 g1 t1 e (wipeD δ vs) xs [] s1).bind fun ds s2 => .val (.lst ds) s2
section
variable {K : PySem.W.Frag} {cl : Nat → Value} {W : WX}
theorem bind_bind {α β γ : Type} {o : O α} {f : α → Sto → O β} {g : β → Sto → O γ} : (o.bind f).bind g = o.bind fun a s => (f a s).bind g := by cases o <;> rfl
theorem RepS.mono {M M' : Hp} {ι ι' : List Addr} {δ : Sl} {σ : L2.St} (h : RepS K M ι δ σ) (m : Ex M M') (i : ∀ (k : Nat) (a : Addr), ι[k]? = some a → ι'[k]? = some a) : RepS K M' ι' δ σ :=
  ⟨h.1, fun j d e => by
    obtain ⟨v, h1, h2⟩ := h.2 j d e
    exact ⟨v, h1, h2.mono m i⟩⟩
/-- the inner walk -/
theorem inner_lc {σ2 : L2.St} {M1 : Hp} {ι1 : List Addr} {H1 : Hp} {p : Addr} {M4 : Hp} {ι4 : List Addr} {s4 : Sto} {H4 : Hp} {δ1 : Sl} {vs1 : List Nat} {ys acc : List D} {J : It} {g1 : GF} {t1 : BF} {f : EF} {Wx : Nat → Hp → Prop} {Q : VK} {Nx : Hp → Prop} {kk : List D → Sto → O D}
    (S : RepS K M4 ι4 δ1 σ2) (ok : ItOk K M4 J ys) (w : Way K M1 ι1 H1 p acc M4 ι4 s4 H4) (fl : ∀ d ∈ acc, flat d = true)
    (hfin : ∀ {M ι s H acc}, Way K M1 ι1 H1 p acc M ι s H → (∀ d ∈ acc, flat d = true) → Post K (Rep K) Wx M1 ι1 H1 (kk acc s) Q → Nx H)
    (P : Post K (Rep K) Wx M1 ι1 H1 ((loopQ flat g1 t1 f (wipeD δ1 vs1) ys acc s4).bind kk) Q) :
    ∃ W1 : Nat → Nat → Hp → Prop, (∃ m, W1 0 m H4) ∧ ∀ j k H, W1 j k H → (J.stop j H ∧ Nx H) ∨ (J.go j H ∧ ∃ Nx1 : Hp → Prop, (∀ H', Nx1 H' → ∃ k', k' < k ∧ W1 (j + 1) k' H') ∧
      ∀ x H', J.yld j H x H' → rdGC K vs1 g1 x (L2.wipe σ2 vs1) H' fun σ3 H5 => L2.wipe σ3 vs1 = L2.wipe σ2 vs1 ∧ rdT K cl W0 t1 σ3 H5 fun b H6 => if b = true then rdE K cl W0 f σ3 H6 fun y H7 => ∃ acc, H7 p = some (.lst acc) ∧ acc.length < sizeLine ∧ Nx1 (upd H7 p (.lst (acc ++ [y]))) else Nx1 H6) := by
  refine ⟨fun j m H => m = ys.length - j ∧ j ≤ ys.length ∧ ∃ M' ι' s' acc, Way K M1 ι1 H1 p acc M' ι' s' H ∧ Ex M4 M' ∧ (∀ (k : Nat) (a : Addr), ι4[k]? = some a → ι'[k]? = some a) ∧ (∀ d ∈ acc, flat d = true) ∧ Post K (Rep K) Wx M1 ι1 H1 ((loopQ flat g1 t1 f (wipeD δ1 vs1) (ys.drop j) acc s').bind kk) Q,
    ⟨ys.length, by simp, Nat.zero_le _, M4, ι4, s4, acc, w, Ex.refl _, fun _ _ h => h, fl, P⟩, ?_⟩
  rintro i m H ⟨rfl, hi, M', ι', s', acc, w, m4, i4, fl, P'⟩
  obtain ⟨ok1, ok2⟩ := ok i M' ι' s' H m4 w.C
  by_cases hlt : i < ys.length
  · obtain ⟨go, yl⟩ := ok1 _ (List.getElem?_eq_getElem hlt)
    rw [List.drop_eq_getElem_cons hlt] at P'
    refine .inr ⟨go, fun H => ∃ M2 ι2 s2 acc2, Way K M1 ι1 H1 p acc2 M2 ι2 s2 H ∧ Ex M4 M2 ∧ (∀ (k : Nat) (a : Addr), ι4[k]? = some a → ι2[k]? = some a) ∧ (∀ d ∈ acc2, flat d = true) ∧ Post K (Rep K) Wx M1 ι1 H1 ((loopQ flat g1 t1 f (wipeD δ1 vs1) (ys.drop (i + 1)) acc2 s2).bind kk) Q, fun H' z => ⟨ys.length - (i + 1), by omega, rfl, hlt, z⟩, fun v H2 hy => ?_⟩
    obtain ⟨M2, t2, C2, r2⟩ := yl v H2 hy
    have w2 := w.go t2 C2
    have m2 : Ex M4 M2 := Ex.trans m4 t2.mm
    refine ⟨M2, ι', wipeD δ1 vs1, s', ys[i], C2, (S.mono m2 i4).wipe vs1, r2, ?_⟩
    unfold loopQ at P'
    revert P'
    cases g1 ys[i] (wipeD δ1 vs1) s' with
    | stuck => exact fun P' => P'
    | exc c s'' => exact fun P' => P'.elim
    | val δ3 s3 =>
      intro P' M3 ι3 H3 σ3 t3 C3 S3 hw
      have w3 := w2.go t3 C3
      have m3 := Ex.trans m2 t3.mm
      have i3 := fun k a h => t3.ii k a (i4 k a h)
      refine ⟨hw.trans wipe_wipe, M3, ι3, δ3, s3, C3, S3, ?_⟩
      have P3 : Post K (Rep K) Wx M1 ι1 H1 (((quiet (t1 δ3 s3)).bind fun b s2 => if b = true then (quiet (f δ3 s2)).bind fun d s3 => if flat d = true ∧ acc.length < 16000000 then loopQ flat g1 t1 f (wipeD δ1 vs1) (ys.drop (i + 1)) (acc ++ [d]) s3 else .stuck else loopQ flat g1 t1 f (wipeD δ1 vs1) (ys.drop (i + 1)) acc s2).bind kk) Q := P'
      revert P3
      cases t1 δ3 s3 with
      | stuck => exact fun P3 => P3
      | exc c s'' => exact fun P3 => P3.elim
      | val b s4 =>
        intro P3 M4' ι4' H4' b' t4 C4 hb
        subst hb
        have w4 := w3.go t4 C4
        have m4' := Ex.trans m3 t4.mm
        have i4' := fun k a h => t4.ii k a (i3 k a h)
        cases b' with
        | false => exact iteF ⟨M4', ι4', s4, acc, w4, m4', i4', fl, P3⟩
        | true =>
          refine iteT ⟨M4', ι4', δ3, s4, C4, S3.step t4, ?_⟩
          have P4 : Post K (Rep K) Wx M1 ι1 H1 (((quiet (f δ3 s4)).bind fun d s3 => if flat d = true ∧ acc.length < 16000000 then loopQ flat g1 t1 f (wipeD δ1 vs1) (ys.drop (i + 1)) (acc ++ [d]) s3 else .stuck).bind kk) Q := P3
          revert P4
          cases f δ3 s4 with
          | stuck => exact fun P4 => P4
          | exc c s'' => exact fun P4 => P4.elim
          | val d s5 =>
            intro P4 M5 ι5 H5 y t5 C5 r5
            have w5 := w4.go t5 C5
            have P5 : Post K (Rep K) Wx M1 ι1 H1 ((if flat d = true ∧ acc.length < 16000000 then loopQ flat g1 t1 f (wipeD δ1 vs1) (ys.drop (i + 1)) (acc ++ [d]) s5 else .stuck).bind kk) Q := P4
            by_cases hc : flat d = true ∧ acc.length < 16000000
            · rw [if_pos hc] at P5
              obtain ⟨us, h1, h2⟩ := w5.at_
              exact ⟨us, h1, by rw [h2.length]; exact Nat.lt_of_lt_of_le hc.2 (by decide), M5, ι5, s5, acc ++ [d], w5.put h1 h2 r5, Ex.trans m4' t5.mm, (fun k a h => t5.ii k a (i4' k a h)), (fun d' z => (List.mem_append.mp z).elim (fl d') fun z => by rw [List.mem_singleton.mp z]; exact hc.1), P5⟩
            · rw [if_neg hc] at P5
              exact P5.elim
  · have e : i = ys.length := by omega
    rw [e, List.drop_length] at P'
    exact .inl ⟨ok2 (by omega), hfin w fl P'⟩
theorem rd_lc2 {fi : AF} {vs vs1 : List Nat} {g g1 : GF} {t t1 : BF} {fi1 : AF} {f : EF} (σ : L2.St) (H : Hp) (Q : VK) (h : rdE K cl W (comp2F fi vs g t fi1 vs1 g1 t1 f) σ H Q) :
    tLc2 (rdI K cl W fi) (rdGC K vs g) (rdT K cl W0 t) (rdI K cl W0 fi1) (rdGC K vs1 g1) (rdT K cl W0 t1) (rdE K cl W0 f) vs vs1 σ H Q := by
  obtain ⟨M, ι, δ, s, C, S, P⟩ := h
  refine ⟨M, ι, δ, s, C, S, Post.mono (Post.bind (CI K) P) fun J H1 m p hp => ?_⟩
  obtain ⟨M1, ι1, xs, s1, t1', C1, ok, P1⟩ := m.ex
  have S1 := S.step t1'
  refine ⟨fun i m H => m = xs.length - i ∧ i ≤ xs.length ∧ ∃ M' ι' s' acc, Way K M1 ι1 H1 p acc M' ι' s' H ∧ (∀ d ∈ acc, flat d = true) ∧ Post K (Rep K) (wx cl W σ) M1 ι1 H1 ((loop2 g t fi1 vs1 g1 t1 f (wipeD δ vs) (xs.drop i) acc s').bind fun ds s2 => .val (.lst ds) s2) Q, ⟨xs.length, by simp, Nat.zero_le _, M1, ι1, s1, [], Way.start C1 hp, (fun _ z => nomatch z), P1⟩, ?_⟩
  rintro i m H ⟨rfl, hi, M', ι', s', acc, w, fl, P'⟩
  obtain ⟨ok1, ok2⟩ := ok i M' ι' s' H w.st.mm w.C
  by_cases hlt : i < xs.length
  · obtain ⟨go, yl⟩ := ok1 _ (List.getElem?_eq_getElem hlt)
    rw [List.drop_eq_getElem_cons hlt] at P'
    refine .inr ⟨go, fun H => ∃ M2 ι2 s2 acc2, Way K M1 ι1 H1 p acc2 M2 ι2 s2 H ∧ (∀ d ∈ acc2, flat d = true) ∧ Post K (Rep K) (wx cl W σ) M1 ι1 H1 ((loop2 g t fi1 vs1 g1 t1 f (wipeD δ vs) (xs.drop (i + 1)) acc2 s2).bind fun ds s2 => .val (.lst ds) s2) Q, fun H' z => ⟨xs.length - (i + 1), by omega, rfl, hlt, z⟩, fun v H2 hy => ?_⟩
    obtain ⟨M2, t2, C2, r2⟩ := yl v H2 hy
    have w2 := w.go t2 C2
    refine ⟨M2, ι', wipeD δ vs, s', xs[i], C2, (S1.step w2.st).wipe vs, r2, ?_⟩
    unfold loop2 at P'
    revert P'
    cases g xs[i] (wipeD δ vs) s' with
    | stuck => exact fun P' => P'
    | exc c s'' => exact fun P' => P'.elim
    | val δ3 s3 =>
      intro P' M3 ι3 H3 σ3 t3 C3 S3 hw
      have w3 := w2.go t3 C3
      refine ⟨hw.trans wipe_wipe, M3, ι3, δ3, s3, C3, S3, ?_⟩
      have P3 : Post K (Rep K) (wx cl W σ) M1 ι1 H1 (((quiet (t δ3 s3)).bind fun b s2 => if b = true then (quiet (fi1 δ3 s2)).bind fun ys s3 => (loopQ flat g1 t1 f (wipeD δ3 vs1) ys acc s3).bind fun acc' s4 => loop2 g t fi1 vs1 g1 t1 f (wipeD δ vs) (xs.drop (i + 1)) acc' s4 else loop2 g t fi1 vs1 g1 t1 f (wipeD δ vs) (xs.drop (i + 1)) acc s2).bind fun ds s2 => .val (.lst ds) s2) Q := P'
      revert P3
      cases t δ3 s3 with
      | stuck => exact fun P3 => P3
      | exc c s'' => exact fun P3 => P3.elim
      | val b s4 =>
        intro P3 M4 ι4 H4 b' t4 C4 hb
        subst hb
        have w4 := w3.go t4 C4
        cases b' with
        | false => exact iteF ⟨M4, ι4, s4, acc, w4, fl, P3⟩
        | true =>
          refine iteT ⟨M4, ι4, δ3, s4, C4, S3.step t4, ?_⟩
          have P4 : Post K (Rep K) (wx cl W σ) M1 ι1 H1 (((quiet (fi1 δ3 s4)).bind fun ys s3 => (loopQ flat g1 t1 f (wipeD δ3 vs1) ys acc s3).bind fun acc' s4 => loop2 g t fi1 vs1 g1 t1 f (wipeD δ vs) (xs.drop (i + 1)) acc' s4).bind fun ds s2 => .val (.lst ds) s2) Q := P3
          revert P4
          cases fi1 δ3 s4 with
          | stuck => exact fun P4 => P4
          | exc c s'' => exact fun P4 => P4.elim
          | val ys s5 =>
            intro P4 M5 ι5 H5 J1 t5 C5 ok5
            have w5 := w4.go t5 C5
            have P5 : Post K (Rep K) (wx cl W σ) M1 ι1 H1 ((loopQ flat g1 t1 f (wipeD δ3 vs1) ys acc s5).bind fun acc' s4 => (loop2 g t fi1 vs1 g1 t1 f (wipeD δ vs) (xs.drop (i + 1)) acc' s4).bind fun ds s2 => .val (.lst ds) s2) Q := by
              rw [← bind_bind]; exact P4
            exact inner_lc ((S3.step t4).step t5) ok5 w5 fl (fun w fl P => ⟨_, _, _, _, w, fl, P⟩) P5
  · have e : i = xs.length := by omega
    rw [e, List.drop_length] at P'
    exact .inl ⟨ok2 (by omega), Way.froz w fl P'⟩
end
section
variable {X : Cx} {cl : Nat → Value} {W : WX} {pos : Pos}
theorem je_lc2 {elt tg iter tg1 iter1 : Expr} {ifs ifs1 : List Expr} {scope : Scope} {own : List (Str × Nat)} {vs vs1 : List Nat} {fi fi1 : AF} {g g1 : GF} {t t1 : BF} {f : EF} (hc : X.calm = true) (hN : X.N.Nodup) (hi : JI X cl W tg iter fi) (ok : BlkOk X.N X.env.scope scope own)
    (hg : ∀ (s : Shared) (H : Hp) (C : Addr) (cls : List (Str × Addr)) (fp : List Addr), JC (X.blk s H scope (compEnvC scope cls C X.env) fp) vs tg g) (ht : ∀ (s : Shared) (H : Hp) (C : Addr) (cls : List (Str × Addr)) (fp : List Addr), JTs (X.blk s H scope (compEnvC scope cls C X.env) fp) cl W0 ifs t)
    (hi1 : ∀ (s : Shared) (H : Hp) (C : Addr) (cls : List (Str × Addr)) (fp : List Addr), JI (X.blk s H scope (compEnvC scope cls C X.env) fp) cl W0 tg1 iter1 fi1)
    (hg1 : ∀ (s : Shared) (H : Hp) (C : Addr) (cls : List (Str × Addr)) (fp : List Addr), JC (X.blk s H scope (compEnvC scope cls C X.env) fp) vs1 tg1 g1) (ht1 : ∀ (s : Shared) (H : Hp) (C : Addr) (cls : List (Str × Addr)) (fp : List Addr), JTs (X.blk s H scope (compEnvC scope cls C X.env) fp) cl W0 ifs1 t1)
    (he : ∀ (s : Shared) (H : Hp) (C : Addr) (cls : List (Str × Addr)) (fp : List Addr), JE (X.blk s H scope (compEnvC scope cls C X.env) fp) cl W0 elt f) (hvs : own.map (·.2) = vs := by rfl) (hv : ∀ i ∈ vs1, i ∈ own.map (·.2) := by decide) (hs : ∀ x, foldedSetIterable iter X.env x = pure x := by intro _; rfl)
    (hs1 : ∀ env x, foldedSetIterable iter1 env x = pure x := by intro _ _; rfl) :
    JE X cl W (.ListComp elt [⟨tg, iter, ifs, 0⟩, ⟨tg1, iter1, ifs1, 0⟩] scope pos) (comp2F fi vs g t fi1 vs1 g1 t1 f) := by
  subst hvs
  exact (pe_lc2 hc hN hi ok hv hg ht hi1 hg1 ht1 he hs hs1).imp rd_lc2
theorem js_setLc2 {i : Nat} {y : Str} {py spos : Pos} {elt tg iter tg1 iter1 : Expr} {ifs ifs1 : List Expr} {scope : Scope} {own : List (Str × Nat)} {vs vs1 : List Nat} {fi fi1 : AF} {g g1 : GF} {t t1 : BF} {f : EF} (hc : X.calm = true) (hN : X.N.Nodup) (hsw : swapsWith (.ListComp elt [⟨tg, iter, ifs, 0⟩, ⟨tg1, iter1, ifs1, 0⟩] scope pos) (some (.Name y py)) spos.line X.env = pure true) (hi : JI X cl W tg iter fi) (ok : BlkOk X.N X.env.scope scope own)
    (hg : ∀ (s : Shared) (H : Hp) (C : Addr) (cls : List (Str × Addr)) (fp : List Addr), JC (X.blk s H scope (compEnvC scope cls C X.env) fp) vs tg g) (ht : ∀ (s : Shared) (H : Hp) (C : Addr) (cls : List (Str × Addr)) (fp : List Addr), JTs (X.blk s H scope (compEnvC scope cls C X.env) fp) cl W0 ifs t)
    (hi1 : ∀ (s : Shared) (H : Hp) (C : Addr) (cls : List (Str × Addr)) (fp : List Addr), JI (X.blk s H scope (compEnvC scope cls C X.env) fp) cl W0 tg1 iter1 fi1)
    (hg1 : ∀ (s : Shared) (H : Hp) (C : Addr) (cls : List (Str × Addr)) (fp : List Addr), JC (X.blk s H scope (compEnvC scope cls C X.env) fp) vs1 tg1 g1) (ht1 : ∀ (s : Shared) (H : Hp) (C : Addr) (cls : List (Str × Addr)) (fp : List Addr), JTs (X.blk s H scope (compEnvC scope cls C X.env) fp) cl W0 ifs1 t1)
    (he : ∀ (s : Shared) (H : Hp) (C : Addr) (cls : List (Str × Addr)) (fp : List Addr), JE (X.blk s H scope (compEnvC scope cls C X.env) fp) cl W0 elt f) (hy : X.N[i]? = some y := by rfl) (hyl : X.env.scope.names.lookup y = some .local := by rfl) (hvs : own.map (·.2) = vs := by rfl) (hv : ∀ i ∈ vs1, i ∈ own.map (·.2) := by decide) (hs : ∀ x, foldedSetIterable iter X.env x = pure x := by intro _; rfl)
    (hs1 : ∀ env x, foldedSetIterable iter1 env x = pure x := by intro _ _; rfl) :
    JS X cl W (.Assign [.Name y py] (.ListComp elt [⟨tg, iter, ifs, 0⟩, ⟨tg1, iter1, ifs1, 0⟩] scope pos) spos) (setS i (comp2F fi vs g t fi1 vs1 g1 t1 f)) := by
  subst hvs
  exact (ps_setLc2 hc hN hy hyl hsw hi ok hv hg ht hi1 hg1 ht1 he hs hs1).imp fun D σ H h => rd_set rd_lc2 D σ H h
end
/-! ### range(i, j, c), c > 0 -/
def upC (lo c : Int) (n : Nat) : List D := (List.range n).map fun (i : Nat) => .int (lo + (i : Int) * c)
def rng3F (f : AF) : AF := fun δ s => (f δ s).bind fun ds s1 => match ds with
  | [.int i, .int j, .int c] => if sm i = true ∧ sm j = true ∧ 0 < c ∧ c ≤ 1000 then .val (upC i c (if i < j then ((j - i - 1) / c + 1).toNat else 0)) s1 else .stuck
  | _ => .stuck
theorem itOk_rngC {K : PySem.W.Frag} {M : Hp} {lo c : Int} {n : Nat} : ItOk K M (Itc lo c n) (upC lo c n) := by
  intro i M1 ι1 s1 H1 e C
  constructor
  · intro d hd
    unfold upC at hd
    rw [List.getElem?_map] at hd
    obtain ⟨j, h1, rfl⟩ := Option.map_eq_some_iff.mp hd
    have hi : i < n := by have := (List.getElem?_eq_some_iff.mp h1).1; simpa using this
    have hj : j = i := by rw [List.getElem?_range hi] at h1; exact (Option.some.inj h1).symm
    subst hj
    refine ⟨hi, fun v' H2 y => ?_⟩
    obtain ⟨rfl, rfl⟩ := y
    exact ⟨M1, Step.refl, C, rf_int⟩
  · intro hi
    show n ≤ i
    rw [hi]; simp [upC]
theorem rgC_pos {i j c : Int} (hi : sm i = true) (hj : sm j = true) (h0 : 0 < c) (h1 : c ≤ 1000) : RgC i j c (if i < j then ((j - i - 1) / c + 1).toNat else 0) := by
  have ⟨i1, i2⟩ := sm_lt hi
  have ⟨j1, j2⟩ := sm_lt hj
  have hs : sm i = true := hi
  unfold sm at hi hj
  simp only [Bool.and_eq_true, decide_eq_true_eq] at hi hj
  have hq : i < j → 0 ≤ (j - i - 1) / c ∧ (j - i - 1) / c ≤ j - i - 1 := fun h => ⟨Int.ediv_nonneg (by omega) (by omega), Int.ediv_le_self _ (by omega)⟩
  have hsz : Builtin.Range.rangeSize i j c = ((if i < j then ((j - i - 1) / c + 1).toNat else 0 : Nat) : Int) := by
    unfold Builtin.Range.rangeSize
    rw [if_pos h0]
    split
    · have := hq (by assumption); omega
    · rfl
  refine ⟨by omega, by omega, ?_, hsz⟩
  unfold Builtin.Range.small
  rw [hsz]
  simp only [Builtin.Range.rangeFitsLong, Bool.and_eq_true, Bool.or_eq_true, decide_eq_true_eq, beq_iff_eq]
  rw [if_pos h0]
  simp only [Bool.and_eq_true, decide_eq_true_eq]
  have hn : (0 : Int) ≤ ((if i < j then ((j - i - 1) / c + 1).toNat else 0 : Nat) : Int) ∧ ((if i < j then ((j - i - 1) / c + 1).toNat else 0 : Nat) : Int) ≤ 2 ^ 62 := by
    split
    · have := hq (by assumption); omega
    · omega
  generalize ((if i < j then ((j - i - 1) / c + 1).toNat else 0 : Nat) : Int) = N at hn ⊢
  omega
section
variable {X : Cx} {cl : Nat → Value} {W : WX} {a b c : Expr} {fr : AF} {pos : Pos}
theorem ji_range3 {tg : Expr} {p : Pos} (hg : Gl X "range") (hm : X.mg "range" = none) (ha : JA X cl W [a, b, c] fr) (hs : starEach [a, b, c] X.env = (false, eval a X.env) :: starEach [b, c] X.env := by rfl) (hpl : (backTo pos (starEach [b, c] X.env)).any (·.1) = false := by rfl) :
    JI X cl W tg (.Call (.Name "range" p) [a, b, c] [] pos) (rng3F fr) := (pi_range3 hg hm ha hs hpl).imp fun σ H R h => by
  obtain ⟨M, ι, δ, s, C, S, P⟩ := h
  refine ⟨M, ι, δ, s, C, S, Post.mono (Post.bind (Reps X.K) P) fun u H1 m => ?_⟩
  obtain ⟨M1, ι1, x, s1, t1, C1, r1, P1⟩ := m.ex
  split at P1
  · split at P1
    · rename_i i j k hj
      cases r1 with
      | cons q1 r1 =>
        obtain ⟨v, w, rfl, r2, r3⟩ := r1.two
        cases q1.int
        cases r2.int
        cases r3.int
        exact ⟨i, j, k, _, rfl, rgC_pos hj.1 hj.2.1 hj.2.2.1 hj.2.2.2, Post.now (C := CI X.K) P1 C1 itOk_rngC⟩
    · exact P1.elim
  · exact P1.elim
end
/-! ### list.count of texts -/
section
variable {X : Cx}
def rCntS (K : PySem.W.Frag) : V → List V → Hp → VK → Prop := fun x xs H Q => ∃ (p : Addr) (ns : List Str) (k : Str), x = .ref p ∧ xs = [.str k] ∧ SqL K H p (ns.map V.str) ∧ Q (.int (countIn (.str k) (ns.map PyData.str))) H
theorem mt_lcountS : MtR X "list.count" (rCntS X.K) := by
  intro pins s σ H x xs v us Q I rx rxs h
  obtain ⟨p, ns, k, rfl, rfl, hs, q⟩ := h
  cases rx
  obtain ⟨u, rfl, ru⟩ := rxs.one
  obtain ⟨t, rfl⟩ := ru
  obtain ⟨its, rv, hl, hlen⟩ := I.list hs
  have hi := Vals.strs rv
  refine count_list_strs (vs := its) ?_ hi ⟨_, H, I.tok _, ?_, q⟩
  · obtain ⟨o, n, h1, h2, h3, h4⟩ := hl
    exact ⟨o, h1, h2, n, h4⟩
  · exact ⟨s.toks, rfl⟩
end
def cntL (s : Sto) (x : D) : List D → O D
  | [.str k] => match x with
    | .lst ds => match strsD ds with
      | some zs => .val (.int (zs.count k : Nat)) s
      | none => .stuck
    | _ => .stuck
  | _ => .stuck
def isLst (_ : Sto) : D → Bool
  | .lst _ => true
  | _ => false
theorem ty_lst {K : PySem.W.Frag} : TyM K "list" isLst := fun M ι s H x u C r h => by
  cases x with
  | lst ds =>
    obtain ⟨a, vs, rfl, h1, h2⟩ := r.lst
    exact .inl ⟨rfl, vs, SqL.of (C.sub _ _ h1)⟩
  | _ => cases h
theorem countIn_strs (k : List Nat) : ∀ zs : List (List Nat), countIn (.str (⟨k.toArray⟩ : Str)) ((zs.map fun cs => (⟨cs.toArray⟩ : Str)).map PyData.str) = ((zs.count k : Nat) : Int)
  | [] => rfl
  | z :: zs => by
    have ih := countIn_strs k zs
    rw [List.map_cons, List.map_cons, countIn, ih, List.count_cons]
    have e : ((⟨z.toArray⟩ : Str) == (⟨k.toArray⟩ : Str)) = (z == k) := SX.S_beq z k
    simp only [same, e]
    split <;> omega
theorem ok_lcount {K : PySem.W.Frag} : OkM K "list" (rCntS K) cntL := fun Wx M ι s H x u xs us Q C rx rs P => by
  unfold cntL at P
  split at P
  · rename_i k
    obtain ⟨w, rfl, ry⟩ := rs.one
    obtain ⟨rfl, _⟩ := ry.str
    split at P
    · rename_i ds
      split at P
      · rename_i zs hz
        obtain ⟨b, ws, rfl, g1, g2⟩ := rx.lst
        obtain ⟨q1, q2⟩ := strs_v g2 hz
        refine ⟨b, zs.map fun cs => ⟨cs.toArray⟩, _, rfl, rfl, ?_, ?_⟩
        · have e2 : ws = (zs.map fun cs => (⟨cs.toArray⟩ : Str)).map V.str := by rw [q1, List.map_map]; rfl
          rw [← e2]; exact SqL.of (C.sub _ _ g1)
        · rw [countIn_strs]
          exact Post.now (C := Rep K) P C rf_int
      · exact P.elim
    · exact P.elim
  · exact P.elim
/-! ### f() -/
theorem pe_callS0 {X : Cx} {CX : CXT} {k : Nat} {f : Addr} {fd : FuncData} {ps : List Str} {sp : Sp} {E : L2.St → XK} {x : Str} {p pos : Pos} (F : FnOk X.prog X.w X.K X.mg X.base CX k f fd ps sp) (hr : Room k X.A) (hg : Gl X x) (hm : X.mg x = some (.ref f)) (hk : PySem.W.keepIn X.K (.ref f) = true) (hb : Binds X.K fd ps []) (hx : ∀ σ, PassesAt CX X σ (E σ))
    (hdb : (x == ("__debug__" : Str)) = false := by decide) : PE X (.Call (.Name x p) [] [] pos) (tCallS sp E tNil) := by
  refine ⟨fun pins s σ H Q I h => ?_⟩
  refine wpAny_Call_Name_kw (ld_glob I hg hm ?_ hdb)
  exact PySem.W.callWith_K0 I.kIn hk (run_fnS (us := []) F hr hb (hx σ) I .nil h)
theorem je_call0 {X : Cx} {cl : Nat → Value} {W : WX} {x : Str} {p pos : Pos} {n k j : Nat} {F : FF} (J : JFn X.prog X.w X.K X.mg X.base cl k x n F) (hr : Room j X.A) (hk : k ≤ j) (tk : Takes X W) (hg : Gl X x)
    (hdb : (x == ("__debug__" : Str)) = false := by decide) : JE X cl W (.Call (.Name x p) [] [] pos) (callF n F nil) := by
  obtain ⟨f, hm, J⟩ := J.ex
  obtain ⟨fd, ps, kp, b, G⟩ := J.ex
  refine (pe_callS0 G (hr.mono hk) hg hm kp b (fun σ => passAt tk σ) hdb).imp fun σ H Q h => ?_
  obtain ⟨M, ι, δ, s, C, S, Pq⟩ := h
  unfold callF nil at Pq
  simp only [O.bind_val] at Pq
  split at Pq
  · rename_i hn
    exact ⟨M, ι, s, [], C, .nil, hn, Pq⟩
  · exact Pq.elim
end Fl
set_option Elab.async false
set_option linter.all false
set_option maxRecDepth 100000
namespace Fl
open PySem PySem.Spec PyProof.Rows L2
/-! _law_draw -/
def N_law_draw : List Str := ["tape", "many", "prime", "cell", "found"]
noncomputable def b_law_draw : SF :=
    seqS (setS 2 (cF (.int 2305843009213693951)))
    (seqS (ifS (tst (bin ltG (bin ixG (varF 0) (cF (.int 2))) (varF 1))) (seqS (setS 3 (cF (.int 0)))
    (seqS (ifS (tst (bin gtG (fnB lenG (con (bin ixG (varF 0) (cF (.int 0))) (nil))) (cF (.int 0)))) (setS 3 (bin ixG (bin ixG (varF 0) (cF (.int 0))) (bin modG (bin ixG (varF 0) (cF (.int 1))) (fnB lenG (con (bin ixG (varF 0) (cF (.int 0))) (nil)))))) (passS))
    (seqS (ifS (orT (tst (bin geG (bin ixG (varF 0) (cF (.int 1))) (fnB lenG (con (bin ixG (varF 0) (cF (.int 0))) (nil))))) (tst (bin ltG (varF 3) (bin powG (cF (.int 10)) (cF (.int 18)))))) (seqS (setS 3 (bin modG (bin addG (varF 3) (bin mulG (cF (.int 1000003)) (bin ixG (varF 0) (cF (.int 1))))) (varF 2)))
    (seqS (setS 3 (bin modG (bin addG (bin addG (bin mulG (varF 3) (varF 3)) (bin mulG (cF (.int 1181783497276652981)) (varF 3))) (cF (.int 2049848353892358983))) (varF 2)))
    (setS 3 (bin modG (bin addG (bin mulG (varF 3) (varF 3)) (cF (.int 1442695040888963407))) (varF 2))))) (passS))
    (seqS (asgS' (bin addG (bin ixG (varF 0) (cF (.int 1))) (cF (.int 1))) (setI (varF 0) (cF (.int 1))))
    (asgS' (varF 3) (setI (varF 0) (cF (.int 2)))))))) (passS))
    (seqS (setS 4 (bin modG (bin ixG (varF 0) (cF (.int 2))) (varF 1)))
    (seqS (asgS' (bin divG (bin ixG (varF 0) (cF (.int 2))) (varF 1)) (setI (varF 0) (cF (.int 2))))
    (retS (varF 4)))))
noncomputable def m_law_draw : FF := fnF N_law_draw 2 b_law_draw
/-! _law_row -/
def N_law_row : List Str := ["tape", "days", "much", "found", "day"]
noncomputable def l_law_row_1 : SF :=
    setS 3 (bin addG (varF 3) (bin ixG (cF (.str [119, 102])) (fnB intOf (con (bin eqG (callF 2 m_law_draw (con (varF 0) (con (bin addG (varF 2) (cF (.int 1))) (nil)))) (cF (.int 0))) (nil)))))
noncomputable def b_law_row : SF :=
    seqS (parS 2 3 (con (bin ixG (lstE (con (cF (.int 1)) (con (cF (.int 2)) (con (cF (.int 5)) (nil))))) (callF 2 m_law_draw (con (varF 0) (con (cF (.int 3)) (nil))))) (con (cF (.str [])) (nil))))
    (seqS (forS (rng1F (con (varF 1) (nil))) (nameG 4) (l_law_row_1))
    (retS (varF 3)))
noncomputable def m_law_row : FF := fnF N_law_row 2 b_law_row
/-! _law_masked -/
def N_law_masked : List Str := ["tape", "row", "much", "found", "letter"]
noncomputable def l_law_masked_1 : SF :=
    setS 3 (bin addG (varF 3) (iteE (tst (bin eqG (callF 2 m_law_draw (con (varF 0) (con (bin addG (varF 2) (cF (.int 1))) (nil)))) (cF (.int 0)))) (varF 4) (cF (.str [63]))))
noncomputable def b_law_masked : SF :=
    seqS (parS 2 3 (con (bin addG (cF (.int 1)) (callF 2 m_law_draw (con (varF 0) (con (cF (.int 4)) (nil))))) (con (cF (.str [])) (nil))))
    (seqS (forS (walkF (varF 1)) (nameG 4) (l_law_masked_1))
    (retS (varF 3)))
noncomputable def m_law_masked : FF := fnF N_law_masked 2 b_law_masked
/-! _law_due -/
def N_law_due : List Str := ["row", "start", "count", "some", "day"]
noncomputable def b_law_due : SF :=
    seqS (setS 3 (compF (rng2F (con (bin addG (varF 1) (cF (.int 1))) (con (fnB lenG (con (varF 0) (nil))) (nil)))) [4] (nameG 4) (tst (bin eqG (bin ixG (varF 0) (varF 4)) (cF (.str [119])))) (varF 4)))
    (retS (iteE (tst (bin leG (varF 2) (fnB lenG (con (varF 3) (nil))))) (bin ixG (varF 3) (bin subG (varF 2) (cF (.int 1)))) (fnB lenG (con (varF 0) (nil)))))
noncomputable def m_law_due : FF := fnF N_law_due 3 b_law_due
/-! _law_promise -/
def N_law_promise : List Str := ["tape", "row", "days", "start", "kind", "count", "due", "end"]
noncomputable def b_law_promise : SF :=
    seqS (setS 2 (fnB lenG (con (varF 1) (nil))))
    (seqS (setS 3 (bin subG (callF 2 m_law_draw (con (varF 0) (con (varF 2) (nil)))) (cF (.int 1))))
    (seqS (setS 4 (bin ixG (lstE (con (cF (.str [111, 110])) (con (cF (.str [111, 110])) (con (cF (.str [98, 121])) (con (cF (.str [102, 114, 111, 109])) (nil)))))) (callF 2 m_law_draw (con (varF 0) (con (cF (.int 4)) (nil))))))
    (seqS (setS 5 (bin addG (cF (.int 1)) (callF 2 m_law_draw (con (varF 0) (con (fnB minG (con (varF 2) (con (cF (.int 6)) (nil)))) (nil))))))
    (seqS (setS 6 (callF 3 m_law_due (con (varF 1) (con (varF 3) (con (varF 5) (nil))))))
    (seqS (setS 7 (bin addG (bin addG (varF 3) (cF (.int 1))) (callF 2 m_law_draw (con (varF 0) (con (bin subG (bin subG (varF 2) (cF (.int 1))) (varF 3)) (nil))))))
    (seqS (ifS (tst (bin gtG (callF 2 m_law_draw (con (varF 0) (con (cF (.int 6)) (nil)))) (cF (.int 0)))) (seqS (ifS (andT (tst (bin eqG (varF 4) (cF (.str [111, 110])))) (tst (bin ltG (varF 6) (varF 2)))) (setS 7 (varF 6)) (passS))
    (seqS (ifS (andT (tst (bin eqG (varF 4) (cF (.str [98, 121])))) (tst (bin ltG (varF 6) (varF 2)))) (setS 7 (bin addG (varF 6) (callF 2 m_law_draw (con (varF 0) (con (bin subG (varF 2) (varF 6)) (nil)))))) (passS))
    (ifS (tst (bin eqG (varF 4) (cF (.str [102, 114, 111, 109])))) (setS 7 (bin addG (bin addG (varF 3) (cF (.int 1))) (callF 2 m_law_draw (con (varF 0) (con (bin subG (fnB minG (con (varF 6) (con (bin subG (varF 2) (cF (.int 1))) (nil)))) (varF 3)) (nil)))))) (passS)))) (passS))
    (retS (tupE (con (varF 4) (con (varF 3) (con (varF 5) (con (varF 7) (nil)))))))))))))
noncomputable def m_law_promise : FF := fnF N_law_promise 2 b_law_promise
/-! _law_promises -/
def N_law_promises : List Str := ["tape", "row", "most", "found", "k"]
noncomputable def l_law_promises_1 : SF :=
    setS 3 (bin addG (varF 3) (tupE (con (callF 2 m_law_promise (con (varF 0) (con (varF 1) (nil)))) (nil))))
noncomputable def b_law_promises : SF :=
    seqS (setS 3 (tupE (nil)))
    (seqS (forS (rng1F (con (callF 2 m_law_draw (con (varF 0) (con (bin addG (varF 2) (cF (.int 1))) (nil)))) (nil))) (nameG 4) (l_law_promises_1))
    (retS (varF 3)))
noncomputable def m_law_promises : FF := fnF N_law_promises 3 b_law_promises
/-! _law_case -/
def N_law_case : List Str := ["tape", "days", "most", "row"]
noncomputable def b_law_case : SF :=
    seqS (setS 3 (callF 2 m_law_row (con (varF 0) (con (bin addG (cF (.int 1)) (callF 2 m_law_draw (con (varF 0) (con (varF 1) (nil))))) (nil)))))
    (retS (tupE (con (callF 2 m_law_masked (con (varF 0) (con (varF 3) (nil)))) (con (callF 3 m_law_promises (con (varF 0) (con (varF 3) (con (varF 2) (nil))))) (nil)))))
noncomputable def m_law_case : FF := fnF N_law_case 3 b_law_case
/-! _law_any -/
def N_law_any : List Str := ["tape", "deep", "course", "some", "k"]
noncomputable def b_law_any (R : FF) : SF :=
    seqS (setS 2 (callF 2 m_law_draw (con (varF 0) (con (cF (.int 13)) (nil)))))
    (seqS (ifS (andT (tst (bin ltG (varF 2) (cF (.int 4)))) (tst (bin gtG (varF 1) (cF (.int 0))))) (seqS (setS 3 (compF (rng1F (con (callF 2 m_law_draw (con (varF 0) (con (cF (.int 4)) (nil)))) (nil))) [4] (nameG 4) (yes) (callF 2 R (con (varF 0) (con (bin subG (varF 1) (cF (.int 1))) (nil))))))
    (retS (bin ixG (lstE (con (varF 3) (con (fnB tupleG (con (varF 3) (nil))) (con (fnB tupleG (con (varF 3) (nil))) (con (fnB tupleG (con (varF 3) (nil))) (nil)))))) (varF 2)))) (passS))
    (seqS (ifS (tst (bin ltG (varF 2) (cF (.int 8)))) (retS (bin ixG (lstE (con (bin subG (callF 2 m_law_draw (con (varF 0) (con (cF (.int 12)) (nil)))) (cF (.int 2))) (con (callF 2 m_law_draw (con (varF 0) (con (bin powG (cF (.int 10)) (cF (.int 12))) (nil)))) (con (cF (.int 0)) (con (cF (.int 3)) (nil)))))) (fnB maxG (con (cF (.int 0)) (con (bin subG (varF 2) (cF (.int 4))) (nil)))))) (passS))
    (seqS (setS 3 (lstE (con (cF (.str [])) (con (cF (.str [32])) (con (cF (.str [119])) (con (cF (.str [119, 63, 102])) (con (cF (.str [111, 110])) (con (cF (.str [65])) (con (cF (.str [119, 10, 102])) (nil))))))))))
    (retS (bin ixG (lstE (con (cF (.bl true)) (con (cF (.bl false)) (con (cF .non) (con (bin ixG (varF 3) (callF 2 m_law_draw (con (varF 0) (con (cF (.int 7)) (nil))))) (con (tupE (con (cF (.int 1)) (con (cF (.int 2)) (nil)))) (nil))))))) (bin subG (varF 2) (cF (.int 8))))))))
noncomputable def m_law_any_n : Nat → FF
  | 0 => fun _ _ => .stuck
  | k + 1 => fnF N_law_any 2 (b_law_any (m_law_any_n k))
noncomputable def m_law_any : FF := m_law_any_n 4
/-! _law_whole -/
def N_law_whole : List Str := ["item"]
noncomputable def b_law_whole : SF :=
    retS (andE (fnB isiG (con (varF 0) (con (cF (.ty "int")) (nil)))) (notE (fnB isiG (con (varF 0) (con (cF (.ty "bool")) (nil))))))
noncomputable def m_law_whole : FF := fnF N_law_whole 1 b_law_whole
/-! _law_spoilt -/
def N_law_spoilt : List Str := ["tape", "item", "k", "rest", "course", "at"]
noncomputable def b_law_spoilt (R : FF) : SF :=
    seqS (ifS (andT (tst (fnB isiG (con (varF 1) (con (tupE (con (cF (.ty "tuple")) (con (cF (.ty "list")) (nil)))) (nil))))) (andT (tst (bin gtG (fnB lenG (con (varF 1) (nil))) (cF (.int 0)))) (tst (bin gtG (callF 2 m_law_draw (con (varF 0) (con (cF (.int 7)) (nil)))) (cF (.int 0)))))) (seqS (setS 2 (callF 2 m_law_draw (con (varF 0) (con (fnB lenG (con (varF 1) (nil))) (nil)))))
    (seqS (setS 3 (fnB listO (con (varF 1) (nil))))
    (seqS (setS 4 (callF 2 m_law_draw (con (varF 0) (con (cF (.int 12)) (nil)))))
    (seqS (ifS (tst (bin ltG (varF 4) (cF (.int 8)))) (asgS' (callF 2 R (con (varF 0) (con (bin ixG (varF 3) (varF 2)) (nil)))) (setI (varF 3) (varF 2))) (ifS (tst (bin eqG (varF 4) (cF (.int 8)))) (dropS (meB' isOwn popG (varF 3) (con (varF 2) (nil)))) (ifS (tst (bin eqG (varF 4) (cF (.int 9)))) (dropS (meB' isOwn insG (varF 3) (con (varF 2) (con (bin ixG (varF 3) (callF 2 m_law_draw (con (varF 0) (con (fnB lenG (con (varF 3) (nil))) (nil))))) (nil))))) (ifS (tst (bin eqG (varF 4) (cF (.int 10)))) (setS 3 (revO (varF 3))) (dropS (meB' isOwn insG (varF 3) (con (varF 2) (con (callF 2 m_law_any (con (varF 0) (con (cF (.int 1)) (nil)))) (nil)))))))))
    (retS (iteE (tst (fnB isiG (con (varF 1) (con (cF (.ty "tuple")) (nil))))) (fnB tupleG (con (varF 3) (nil))) (varF 3))))))) (passS))
    (seqS (ifS (andT (tst (callF 1 m_law_whole (con (varF 1) (nil)))) (tst (bin gtG (callF 2 m_law_draw (con (varF 0) (con (cF (.int 6)) (nil)))) (cF (.int 0))))) (retS (bin addG (varF 1) (bin ixG (lstE (con (cF (.int 1)) (con (una negG (cF (.int 1))) (con (cF (.int 2)) (con (una negG (cF (.int 2))) (con (cF (.int 9)) (con (cF (.int 1000)) (nil)))))))) (callF 2 m_law_draw (con (varF 0) (con (cF (.int 6)) (nil))))))) (passS))
    (seqS (ifS (andT (tst (fnB isiG (con (varF 1) (con (cF (.ty "str")) (nil))))) (tst (bin gtG (callF 2 m_law_draw (con (varF 0) (con (cF (.int 3)) (nil)))) (cF (.int 0))))) (seqS (setS 5 (callF 2 m_law_draw (con (varF 0) (con (bin addG (fnB lenG (con (varF 1) (nil))) (cF (.int 1))) (nil)))))
    (retS (bin addG (bin addG (slF slG (varF 1) noP (parF (varF 5))) (bin ixG (lstE (con (cF (.str [32])) (con (cF (.str [122])) (con (cF (.str [65])) (con (cF (.str [124])) (con (cF (.str [97, 98, 99, 100, 101, 102, 103, 104])) (con (cF (.str [])) (nil)))))))) (callF 2 m_law_draw (con (varF 0) (con (cF (.int 6)) (nil)))))) (slF slG (varF 1) (parF (varF 5)) noP)))) (passS))
    (seqS (ifS (andT (tst (fnB isiG (con (varF 1) (con (tupE (con (cF (.ty "tuple")) (con (cF (.ty "list")) (nil)))) (nil))))) (tst (bin eqG (callF 2 m_law_draw (con (varF 0) (con (cF (.int 2)) (nil)))) (cF (.int 0))))) (retS (iteE (tst (fnB isiG (con (varF 1) (con (cF (.ty "tuple")) (nil))))) (fnB listF (con (varF 1) (nil))) (fnB tupleG (con (varF 1) (nil))))) (passS))
    (retS (callF 2 m_law_any (con (varF 0) (con (cF (.int 2)) (nil))))))))
noncomputable def m_law_spoilt_n : Nat → FF
  | 0 => fun _ _ => .stuck
  | k + 1 => fnF N_law_spoilt 2 (b_law_spoilt (m_law_spoilt_n k))
noncomputable def m_law_spoilt : FF := m_law_spoilt_n 6
/-! are_letters -/
def N_are_letters : List Str := ["value", "letters", "letter"]
noncomputable def b_are_letters : SF :=
    retS (andE (fnB isiG (con (varF 0) (con (cF (.ty "str")) (nil)))) (andE (chain leG leG (cF (.int 1)) (fnB lenG (con (varF 0) (nil))) (cF (.int 31))) (fnB allG (con (compF (walkF (varF 0)) [2] (nameG 2) (yes) (bin inG (varF 2) (varF 1))) (nil)))))
noncomputable def m_are_letters : FF := fnF N_are_letters 2 b_are_letters
/-! is_row -/
def N_is_row : List Str := ["value"]
noncomputable def b_is_row : SF :=
    retS (callF 2 m_are_letters (con (varF 0) (con (cF (.str [119, 102])) (nil))))
noncomputable def m_is_row : FF := fnF N_is_row 1 b_is_row
/-! _law_letters -/
def N_law_letters : List Str := ["item", "letters", "s"]
noncomputable def b_law_letters : SF :=
    retS (andE (fnB isiG (con (varF 0) (con (cF (.ty "str")) (nil)))) (andE (chain leG leG (cF (.int 1)) (fnB lenG (con (varF 0) (nil))) (cF (.int 31))) (bin eqG (compF (walkF (varF 0)) [2] (nameG 2) (tst (bin ninG (varF 2) (varF 1))) (varF 2)) (lstE (nil)))))
noncomputable def m_law_letters : FF := fnF N_law_letters 2 b_law_letters
/-! _law_like -/
def N_law_like : List Str := ["one", "two", "k"]
noncomputable def b_law_like (R : FF) : SF :=
    seqS (ifS (tst (fnB isiG (con (varF 0) (con (tupE (con (cF (.ty "list")) (con (cF (.ty "tuple")) (nil)))) (nil))))) (seqS (ifS (orT (tst (bin neG (fnB isiG (con (varF 0) (con (cF (.ty "list")) (nil)))) (fnB isiG (con (varF 1) (con (cF (.ty "list")) (nil)))))) (tst (bin neG (fnB isiG (con (varF 0) (con (cF (.ty "tuple")) (nil)))) (fnB isiG (con (varF 1) (con (cF (.ty "tuple")) (nil))))))) (retS (cF (.bl false))) (passS))
    (seqS (ifS (tst (bin neG (fnB lenG (con (varF 0) (nil))) (fnB lenG (con (varF 1) (nil))))) (retS (cF (.bl false))) (passS))
    (retS (bin eqG (compF (rng1F (con (fnB lenG (con (varF 0) (nil))) (nil))) [2] (nameG 2) (notT (tst (callF 2 R (con (bin ixG (varF 0) (varF 2)) (con (bin ixG (varF 1) (varF 2)) (nil)))))) (varF 2)) (lstE (nil)))))) (passS))
    (seqS (ifS (tst (fnB isiG (con (varF 1) (con (tupE (con (cF (.ty "list")) (con (cF (.ty "tuple")) (nil)))) (nil))))) (retS (cF (.bl false))) (passS))
    (retS (andE (bin eqG (fnB isiG (con (varF 0) (con (cF (.ty "bool")) (nil)))) (fnB isiG (con (varF 1) (con (cF (.ty "bool")) (nil))))) (bin eqG (varF 0) (varF 1)))))
noncomputable def m_law_like_n : Nat → FF
  | 0 => fun _ _ => .stuck
  | k + 1 => fnF N_law_like 2 (b_law_like (m_law_like_n k))
noncomputable def m_law_like : FF := m_law_like_n 4
/-! is_known -/
def N_is_known : List Str := ["value"]
noncomputable def b_is_known : SF :=
    retS (callF 2 m_are_letters (con (varF 0) (con (cF (.str [119, 102, 63])) (nil))))
noncomputable def m_is_known : FF := fnF N_is_known 1 b_is_known
/-! is_integer -/
def N_is_integer : List Str := ["value", "low", "high"]
noncomputable def b_is_integer : SF :=
    retS (andE (fnB isiG (con (varF 0) (con (cF (.ty "int")) (nil)))) (andE (notE (fnB isiG (con (varF 0) (con (cF (.ty "bool")) (nil))))) (chain leG leG (varF 1) (varF 0) (varF 2))))
noncomputable def m_is_integer : FF := fnF N_is_integer 3 b_is_integer
/-! is_promise -/
def N_is_promise : List Str := ["known", "value", "days"]
noncomputable def b_is_promise : SF :=
    seqS (ifS (orT (notT (tst (fnB isiG (con (varF 1) (con (cF (.ty "tuple")) (nil)))))) (orT (tst (bin neG (fnB lenG (con (varF 1) (nil))) (cF (.int 4)))) (orT (notT (tst (fnB isiG (con (bin ixG (varF 1) (cF (.int 0))) (con (cF (.ty "str")) (nil)))))) (tst (bin ninG (bin ixG (varF 1) (cF (.int 0))) (cF (.tup [.str [111, 110], .str [98, 121], .str [102, 114, 111, 109]]))))))) (retS (cF (.bl false))) (passS))
    (seqS (setS 2 (fnB lenG (con (varF 0) (nil))))
    (seqS (ifS (orT (notT (tst (callF 3 m_is_integer (con (bin ixG (varF 1) (cF (.int 1))) (con (una negG (cF (.int 1))) (con (bin subG (varF 2) (cF (.int 2))) (nil))))))) (notT (tst (callF 3 m_is_integer (con (bin ixG (varF 1) (cF (.int 2))) (con (cF (.int 1)) (con (varF 2) (nil)))))))) (retS (cF (.bl false))) (passS))
    (retS (callF 3 m_is_integer (con (bin ixG (varF 1) (cF (.int 3))) (con (bin addG (bin ixG (varF 1) (cF (.int 1))) (cF (.int 1))) (con (bin subG (varF 2) (cF (.int 1))) (nil))))))))
noncomputable def m_is_promise : FF := fnF N_is_promise 2 b_is_promise
/-! _law_within -/
def N_law_within : List Str := ["item", "low", "high"]
noncomputable def b_law_within : SF :=
    retS (andE (callF 1 m_law_whole (con (varF 0) (nil))) (chain leG leG (varF 1) (varF 0) (varF 2)))
noncomputable def m_law_within : FF := fnF N_law_within 3 b_law_within
/-! _law_is_promise -/
def N_law_is_promise : List Str := ["days", "item"]
noncomputable def b_law_is_promise : SF :=
    seqS (ifS (orT (notT (tst (fnB isiG (con (varF 1) (con (cF (.ty "tuple")) (nil)))))) (orT (tst (bin neG (fnB lenG (con (varF 1) (nil))) (cF (.int 4)))) (notT (tst (fnB isiG (con (bin ixG (varF 1) (cF (.int 0))) (con (cF (.ty "str")) (nil)))))))) (retS (cF (.bl false))) (passS))
    (seqS (ifS (orT (tst (bin ninG (bin ixG (varF 1) (cF (.int 0))) (tupE (con (cF (.str [111, 110])) (con (cF (.str [98, 121])) (con (cF (.str [102, 114, 111, 109])) (nil))))))) (notT (tst (callF 3 m_law_within (con (bin ixG (varF 1) (cF (.int 1))) (con (una negG (cF (.int 1))) (con (bin subG (varF 0) (cF (.int 2))) (nil)))))))) (retS (cF (.bl false))) (passS))
    (retS (andE (callF 3 m_law_within (con (bin ixG (varF 1) (cF (.int 2))) (con (cF (.int 1)) (con (varF 0) (nil))))) (callF 3 m_law_within (con (bin ixG (varF 1) (cF (.int 3))) (con (bin addG (bin ixG (varF 1) (cF (.int 1))) (cF (.int 1))) (con (bin subG (varF 0) (cF (.int 1))) (nil))))))))
noncomputable def m_law_is_promise : FF := fnF N_law_is_promise 2 b_law_is_promise
/-! are_promises -/
def N_are_promises : List Str := ["known", "value", "promise"]
noncomputable def b_are_promises : SF :=
    seqS (ifS (orT (notT (tst (fnB isiG (con (varF 1) (con (cF (.ty "tuple")) (nil)))))) (tst (bin gtG (fnB lenG (con (varF 1) (nil))) (cF (.int 6))))) (retS (cF (.bl false))) (passS))
    (retS (fnB allG (con (compF (walkF (varF 1)) [2] (nameG 2) (yes) (callF 2 m_is_promise (con (varF 0) (con (varF 2) (nil))))) (nil))))
noncomputable def m_are_promises : FF := fnF N_are_promises 2 b_are_promises
/-! law -/
def N_law_k01 : List Str := ["script", "tape", "turn", "known", "promises", "days", "one", "things", "k", "thing", "good", "own"]
noncomputable def l_law_k01_1 : SF :=
    seqS (dropS (meB' isOwn appG (varF 7) (con (callF 2 m_law_spoilt (con (varF 1) (con (varF 6) (nil)))) (nil))))
    (seqS (dropS (meB' isOwn appG (varF 7) (con (callF 2 m_law_spoilt (con (varF 1) (con (varF 4) (nil)))) (nil))))
    (dropS (meB' isOwn appG (varF 7) (con (callF 2 m_law_spoilt (con (varF 1) (con (callF 2 m_law_promise (con (varF 1) (con (bin mulG (cF (.str [119])) (varF 5)) (nil)))) (nil)))) (nil)))))
noncomputable def l_law_k01_2 : SF :=
    seqS (ifS (notT (tst (callF 2 m_law_like (con (callF 1 m_is_row (con (varF 9) (nil))) (con (callF 2 m_law_letters (con (varF 9) (con (cF (.str [119, 102])) (nil)))) (nil)))))) (retS (cF (.bl false))) (passS))
    (seqS (ifS (notT (tst (callF 2 m_law_like (con (callF 1 m_is_known (con (varF 9) (nil))) (con (callF 2 m_law_letters (con (varF 9) (con (cF (.str [119, 102, 63])) (nil)))) (nil)))))) (retS (cF (.bl false))) (passS))
    (seqS (ifS (notT (tst (callF 2 m_law_like (con (callF 2 m_is_promise (con (varF 3) (con (varF 9) (nil)))) (con (callF 2 m_law_is_promise (con (varF 5) (con (varF 9) (nil)))) (nil)))))) (retS (cF (.bl false))) (passS))
    (seqS (setS 10 (andE (fnB isiG (con (varF 9) (con (cF (.ty "tuple")) (nil)))) (bin leG (fnB lenG (con (varF 9) (nil))) (cF (.int 6)))))
    (seqS (setS 10 (andE (varF 10) (bin eqG (compF (walkF (varF 9)) [11] (nameG 11) (notT (tst (callF 2 m_law_is_promise (con (varF 5) (con (varF 11) (nil)))))) (varF 11)) (lstE (nil)))))
    (ifS (notT (tst (callF 2 m_law_like (con (callF 2 m_are_promises (con (varF 3) (con (varF 9) (nil)))) (con (varF 10) (nil)))))) (retS (cF (.bl false))) (passS))))))
noncomputable def l_law_k01_3 : SF :=
    seqS (asgS' (callF 3 m_law_case (con (varF 1) (con (cF (.int 31)) (con (cF (.int 6)) (nil))))) (tupG [(nameG 3), (nameG 4)]))
    (seqS (setS 5 (fnB lenG (con (varF 3) (nil))))
    (seqS (setS 6 (tupE (con (cF (.str [98, 121])) (con (una negG (cF (.int 1))) (con (cF (.int 1)) (con (cF (.int 0)) (nil)))))))
    (seqS (setS 7 (ownE (con (varF 3) (con (varF 4) (con (bin mulG (tupE (con (varF 6) (nil))) (cF (.int 6))) (con (bin mulG (tupE (con (varF 6) (nil))) (cF (.int 7))) (con (lstE (con (varF 6) (nil))) (con (tupE (nil)) (con (cF .non) (con (cF (.str [])) (con (bin mulG (cF (.str [119])) (cF (.int 31))) (con (bin mulG (cF (.str [119])) (cF (.int 32))) (con (bin mulG (cF (.str [63])) (cF (.int 31))) (nil))))))))))))))
    (seqS (setS 7 (bin addO (varF 7) (lstE (con (cF (.str [87])) (con (cF (.str [119, 102, 32])) (con (cF (.int 5)) (con (varF 6) (con (tupE (con (cF (.str [98, 121])) (con (una negG (cF (.int 2))) (con (cF (.int 1)) (con (cF (.int 0)) (nil)))))) (con (tupE (con (cF (.str [98, 121])) (con (una negG (cF (.int 1))) (con (cF (.int 0)) (con (cF (.int 0)) (nil)))))) (con (tupE (con (cF (.str [98, 121])) (con (una negG (cF (.int 1))) (con (varF 5) (con (cF (.int 0)) (nil)))))) (nil)))))))))))
    (seqS (setS 7 (bin addO (varF 7) (lstE (con (tupE (con (cF (.str [98, 121])) (con (una negG (cF (.int 1))) (con (bin addG (varF 5) (cF (.int 1))) (con (cF (.int 0)) (nil)))))) (con (tupE (con (cF (.str [98, 121])) (con (una negG (cF (.int 1))) (con (cF (.int 1)) (con (una negG (cF (.int 1))) (nil)))))) (con (tupE (con (cF (.str [98, 121])) (con (una negG (cF (.int 1))) (con (cF (.int 1)) (con (bin subG (varF 5) (cF (.int 1))) (nil)))))) (con (tupE (con (cF (.str [98, 121])) (con (una negG (cF (.int 1))) (con (cF (.int 1)) (con (varF 5) (nil)))))) (nil))))))))
    (seqS (setS 7 (bin addO (varF 7) (lstE (con (tupE (con (cF (.str [98, 121])) (con (bin subG (varF 5) (cF (.int 2))) (con (cF (.int 1)) (con (bin subG (varF 5) (cF (.int 1))) (nil)))))) (con (tupE (con (cF (.str [98, 121])) (con (bin subG (varF 5) (cF (.int 1))) (con (cF (.int 1)) (con (varF 5) (nil)))))) (con (tupE (con (cF (.str [97, 116])) (con (una negG (cF (.int 1))) (con (cF (.int 1)) (con (cF (.int 0)) (nil)))))) (nil)))))))
    (seqS (setS 7 (bin addO (varF 7) (lstE (con (tupE (con (cF (.str [98, 121])) (con (una negG (cF (.int 1))) (con (cF (.bl true)) (con (cF (.int 0)) (nil)))))) (con (tupE (con (cF (.str [98, 121])) (con (una negG (cF (.int 1))) (con (cF (.int 1)) (nil))))) (con (fnB listF (con (varF 6) (nil))) (nil)))))))
    (seqS (forS (rng1F (con (cF (.int 7)) (nil))) (nameG 8) (l_law_k01_1))
    (forS (walkF (bin addG (varF 7) (lstE (con (callF 2 m_law_any (con (varF 1) (con (cF (.int 2)) (nil)))) (con (cF (.str [119, 102, 63])) (con (cF (.str [119, 102, 119])) (nil))))))) (nameG 9) (l_law_k01_2))))))))))
noncomputable def b_law_k01 : SF :=
    seqS (setS 1 (ownE (con (fnB listF (con (varF 0) (nil))) (con (cF (.int 0)) (con (cF (.int 0)) (nil))))))
    (seqS (forS (rng1F (con (cF (.int 5)) (nil))) (nameG 2) (l_law_k01_3))
    (retS (cF (.bl true))))
noncomputable def m_law_k01 : FF := fnF N_law_k01 1 b_law_k01
/-! due_day -/
def N_due_day : List Str := ["row", "start", "count", "left", "day"]
noncomputable def l_due_day_1 : SF :=
    seqS (ifS (tst (bin eqG (bin ixG (varF 0) (varF 4)) (cF (.str [119])))) (augS (fun i j => i - j) 3 (cF (.int 1))) (passS))
    (ifS (tst (bin eqG (varF 3) (cF (.int 0)))) (retS (varF 4)) (passS))
noncomputable def b_due_day : SF :=
    seqS (setS 3 (varF 2))
    (seqS (forS (rng2F (con (bin addG (varF 1) (cF (.int 1))) (con (fnB lenG (con (varF 0) (nil))) (nil)))) (nameG 4) (l_due_day_1))
    (retS (fnB lenG (con (varF 0) (nil)))))
noncomputable def m_due_day : FF := fnF N_due_day 3 b_due_day
/-! keeps -/
def N_keeps : List Str := ["row", "promise", "kind", "start", "count", "end", "due"]
noncomputable def b_keeps : SF :=
    seqS (asgS' (varF 1) (tupG [(nameG 2), (nameG 3), (nameG 4), (nameG 5)]))
    (seqS (setS 6 (callF 3 m_due_day (con (varF 0) (con (varF 3) (con (varF 4) (nil))))))
    (seqS (ifS (tst (bin eqG (varF 2) (cF (.str [98, 121])))) (retS (bin leG (varF 6) (varF 5))) (passS))
    (retS (iteE (tst (bin eqG (varF 2) (cF (.str [102, 114, 111, 109])))) (bin geG (varF 6) (varF 5)) (bin eqG (varF 6) (varF 5))))))
noncomputable def m_keeps : FF := fnF N_keeps 2 b_keeps
/-! law -/
def N_law_k02 : List Str := ["script", "tape", "turn", "row", "days", "ask", "start", "count", "end", "told", "due", "kind"]
noncomputable def l_law_k02_1 : SF :=
    seqS (setS 6 (bin subG (callF 2 m_law_draw (con (varF 1) (con (varF 4) (nil)))) (cF (.int 1))))
    (seqS (asgS' (tupE (con (bin addG (cF (.int 1)) (callF 2 m_law_draw (con (varF 1) (con (varF 4) (nil))))) (con (bin addG (bin addG (varF 6) (cF (.int 1))) (callF 2 m_law_draw (con (varF 1) (con (bin subG (bin subG (varF 4) (cF (.int 1))) (varF 6)) (nil))))) (nil)))) (tupG [(nameG 7), (nameG 8)]))
    (seqS (setS 9 (compF (walkF (tupE (con (cF (.str [111, 110])) (con (cF (.str [98, 121])) (con (cF (.str [102, 114, 111, 109])) (nil)))))) [11] (nameG 11) (yes) (callF 2 m_keeps (con (varF 3) (con (tupE (con (varF 11) (con (varF 6) (con (varF 7) (con (varF 8) (nil)))))) (nil))))))
    (seqS (setS 10 (callF 3 m_law_due (con (varF 3) (con (varF 6) (con (varF 7) (nil))))))
    (seqS (ifS (notT (tst (callF 2 m_law_like (con (varF 9) (con (lstE (con (bin eqG (varF 10) (varF 8)) (con (bin leG (varF 10) (varF 8)) (con (bin geG (varF 10) (varF 8)) (nil))))) (nil)))))) (retS (cF (.bl false))) (passS))
    (ifS (tst (bin neG (bin ixG (varF 9) (cF (.int 0))) (andE (bin ixG (varF 9) (cF (.int 1))) (bin ixG (varF 9) (cF (.int 2)))))) (retS (cF (.bl false))) (passS))))))
noncomputable def l_law_k02_2 : SF :=
    seqS (setS 3 (callF 2 m_law_row (con (varF 1) (con (bin addG (cF (.int 1)) (callF 2 m_law_draw (con (varF 1) (con (cF (.int 31)) (nil))))) (nil)))))
    (seqS (setS 4 (fnB lenG (con (varF 3) (nil))))
    (forS (rng1F (con (cF (.int 12)) (nil))) (nameG 5) (l_law_k02_1)))
noncomputable def b_law_k02 : SF :=
    seqS (setS 1 (ownE (con (fnB listF (con (varF 0) (nil))) (con (cF (.int 0)) (con (cF (.int 0)) (nil))))))
    (seqS (forS (rng1F (con (cF (.int 6)) (nil))) (nameG 2) (l_law_k02_2))
    (retS (andE (bin isNG (callF 2 m_keeps (con (cF (.str [102, 102])) (con (tupE (con (cF (.str [102, 114, 111, 109])) (con (una negG (cF (.int 1))) (con (cF (.int 1)) (con (cF (.int 1)) (nil)))))) (nil)))) (cF (.bl true))) (bin isNG (callF 2 m_keeps (con (cF (.str [102, 102])) (con (tupE (con (cF (.str [98, 121])) (con (una negG (cF (.int 1))) (con (cF (.int 1)) (con (cF (.int 1)) (nil)))))) (nil)))) (cF (.bl false))))))
noncomputable def m_law_k02 : FF := fnF N_law_k02 1 b_law_k02
/-! _law_keeps -/
def N_law_keeps : List Str := ["row", "promise", "kind", "start", "count", "end", "due"]
noncomputable def b_law_keeps : SF :=
    seqS (asgS' (varF 1) (tupG [(nameG 2), (nameG 3), (nameG 4), (nameG 5)]))
    (seqS (setS 6 (callF 3 m_law_due (con (varF 0) (con (varF 3) (con (varF 4) (nil))))))
    (retS (orE (bin eqG (varF 6) (varF 5)) (orE (andE (bin eqG (varF 2) (cF (.str [98, 121]))) (bin ltG (varF 6) (varF 5))) (andE (bin eqG (varF 2) (cF (.str [102, 114, 111, 109]))) (bin gtG (varF 6) (varF 5)))))))
noncomputable def m_law_keeps : FF := fnF N_law_keeps 2 b_law_keeps
/-! _law_fits -/
def N_law_fits : List Str := ["row", "known", "promises", "letter", "other", "promise"]
noncomputable def b_law_fits : SF :=
    seqS (ifS (tst (bin neG (compF (zipF (con (varF 0) (con (varF 1) (nil)))) [3, 4] (tupG [(nameG 3), (nameG 4)]) (tst (bin ninG (varF 4) (tupE (con (varF 3) (con (cF (.str [63])) (nil)))))) (cF (.int 1))) (lstE (nil)))) (retS (cF (.bl false))) (passS))
    (retS (bin eqG (compF (walkF (varF 2)) [5] (nameG 5) (notT (tst (callF 2 m_law_keeps (con (varF 0) (con (varF 5) (nil)))))) (varF 5)) (lstE (nil))))
noncomputable def m_law_fits : FF := fnF N_law_fits 3 b_law_fits
/-! _law_rows -/
def N_law_rows : List Str := ["known", "promises", "found", "letter", "longer", "row", "own"]
noncomputable def l_law_rows_1 : SF :=
    setS 4 (bin addG (varF 4) (compF (walkF (cF (.str [102, 119]))) [6] (nameG 6) (tst (bin inG (varF 3) (tupE (con (varF 6) (con (cF (.str [63])) (nil)))))) (bin addG (varF 5) (varF 6))))
noncomputable def l_law_rows_2 : SF :=
    seqS (setS 4 (lstE (nil)))
    (seqS (forS (walkF (varF 2)) (nameG 5) (l_law_rows_1))
    (setS 2 (varF 4)))
noncomputable def b_law_rows : SF :=
    seqS (setS 2 (lstE (con (cF (.str [])) (nil))))
    (seqS (forS (walkF (varF 0)) (nameG 3) (l_law_rows_2))
    (retS (compF (walkF (varF 2)) [5] (nameG 5) (tst (callF 3 m_law_fits (con (varF 5) (con (varF 0) (con (varF 1) (nil)))))) (varF 5))))
noncomputable def m_law_rows : FF := fnF N_law_rows 2 b_law_rows
/-! first_bounds -/
def N_first_bounds : List Str := ["known", "promises", "days", "table", "day", "letter", "kind", "start", "count", "end", "one", "other"]
noncomputable def l_first_bounds_1 : SF :=
    seqS (asgS' (fnB intOf (con (bin neG (varF 5) (cF (.str [102]))) (nil))) (setI (bin ixG (varF 3) (varF 4)) (bin addG (varF 4) (cF (.int 1)))))
    (asgS' (una negG (fnB intOf (con (bin eqG (varF 5) (cF (.str [119]))) (nil)))) (setI (bin ixG (varF 3) (bin addG (varF 4) (cF (.int 1)))) (varF 4)))
noncomputable def l_first_bounds_2 : SF :=
    seqS (ifS (tst (bin neG (varF 6) (cF (.str [102, 114, 111, 109])))) (asgS' (fnB minG (con (bin ixG (bin ixG (varF 3) (bin addG (varF 9) (cF (.int 1)))) (bin addG (varF 7) (cF (.int 1)))) (con (una negG (varF 8)) (nil)))) (setI (bin ixG (varF 3) (bin addG (varF 9) (cF (.int 1)))) (bin addG (varF 7) (cF (.int 1))))) (passS))
    (ifS (tst (bin neG (varF 6) (cF (.str [98, 121])))) (asgS' (fnB minG (con (bin ixG (bin ixG (varF 3) (bin addG (varF 7) (cF (.int 1)))) (varF 9)) (con (bin subG (varF 8) (cF (.int 1))) (nil)))) (setI (bin ixG (varF 3) (bin addG (varF 7) (cF (.int 1)))) (varF 9))) (passS))
noncomputable def b_first_bounds : SF :=
    seqS (setS 2 (fnB lenG (con (varF 0) (nil))))
    (seqS (setS 3 (compO (rng1F (con (bin addG (varF 2) (cF (.int 1))) (nil))) [10] (nameG 10) (yes) (compO (rng1F (con (bin addG (varF 2) (cF (.int 1))) (nil))) [11] (nameG 11) (yes) (iteE (tst (bin eqG (varF 10) (varF 11))) (cF (.int 0)) (cF (.int 99))))))
    (seqS (forS (enumF (con (varF 0) (nil))) (tupG [(nameG 4), (nameG 5)]) (l_first_bounds_1))
    (seqS (forS (walkF (varF 1)) (tupG [(nameG 6), (nameG 7), (nameG 8), (nameG 9)]) (l_first_bounds_2))
    (retS (varF 3)))))
noncomputable def m_first_bounds : FF := fnK N_first_bounds 2 b_first_bounds
/-! all_bounds -/
def N_all_bounds : List Str := ["known", "promises", "table", "size", "between", "one", "other", "way", "at"]
noncomputable def l_all_bounds_1 : SF :=
    seqS (setS 7 (bin addG (bin ixG (bin ixG (varF 2) (varF 5)) (varF 4)) (bin ixG (bin ixG (varF 2) (varF 4)) (varF 6))))
    (ifS (tst (bin ltG (varF 7) (bin ixG (bin ixG (varF 2) (varF 5)) (varF 6)))) (asgS' (varF 7) (setI (bin ixG (varF 2) (varF 5)) (varF 6))) (passS))
noncomputable def l_all_bounds_2 : SF :=
    forS (rng1F (con (varF 3) (nil))) (nameG 6) (l_all_bounds_1)
noncomputable def l_all_bounds_3 : SF :=
    forS (rng1F (con (varF 3) (nil))) (nameG 5) (l_all_bounds_2)
noncomputable def b_all_bounds : SF :=
    seqS (setS 2 (callF 2 m_first_bounds (con (varF 0) (con (varF 1) (nil)))))
    (seqS (setS 3 (fnB lenG (con (varF 2) (nil))))
    (seqS (forS (rng1F (con (varF 3) (nil))) (nameG 4) (l_all_bounds_3))
    (retS (iteE (tst (fnB allG (con (compF (rng1F (con (varF 3) (nil))) [8] (nameG 8) (yes) (bin geG (bin ixG (bin ixG (varF 2) (varF 8)) (varF 8)) (cF (.int 0)))) (nil)))) (varF 2) (cF .non)))))
noncomputable def m_all_bounds : FF := fnF N_all_bounds 2 b_all_bounds
/-! is_possible -/
def N_is_possible : List Str := ["known", "promises"]
noncomputable def b_is_possible : SF :=
    retS (bin isntG (callF 2 m_all_bounds (con (varF 0) (con (varF 1) (nil)))) (cF .non))
noncomputable def m_is_possible : FF := fnF N_is_possible 2 b_is_possible
/-! range_of -/
def N_range_of : List Str := ["table", "first", "last"]
noncomputable def b_range_of : SF :=
    retS (tupE (con (una negG (bin ixG (bin ixG (varF 0) (bin addG (varF 2) (cF (.int 1)))) (varF 1))) (con (bin ixG (bin ixG (varF 0) (varF 1)) (bin addG (varF 2) (cF (.int 1)))) (nil))))
noncomputable def m_range_of : FF := fnF N_range_of 3 b_range_of
/-! day_states -/
def N_day_states : List Str := ["known", "promises", "table", "found", "day", "low", "high"]
noncomputable def l_day_states_1 : SF :=
    seqS (asgS' (callF 3 m_range_of (con (varF 2) (con (varF 4) (con (varF 4) (nil))))) (tupG [(nameG 5), (nameG 6)]))
    (dropS (meB' isOwn appG (varF 3) (con (iteE (tst (bin ltG (varF 5) (varF 6))) (cF (.str [63])) (bin ixG (cF (.str [102, 119])) (varF 5))) (nil))))
noncomputable def b_day_states : SF :=
    seqS (setS 2 (callF 2 m_all_bounds (con (varF 0) (con (varF 1) (nil)))))
    (seqS (ifS (tst (bin isNG (varF 2) (cF .non))) (retS (cF .non)) (passS))
    (seqS (setS 3 (ownE (nil)))
    (seqS (forS (rng1F (con (fnB lenG (con (varF 0) (nil))) (nil))) (nameG 4) (l_day_states_1))
    (retS (meB' isStr joinG (cF (.str [])) (con (varF 3) (nil)))))))
noncomputable def m_day_states : FF := fnF N_day_states 2 b_day_states
/-! _law_states -/
def N_law_states : List Str := ["rows", "found", "day", "some", "row"]
noncomputable def l_law_states_1 : SF :=
    seqS (setS 3 (ssF (compF (walkF (varF 0)) [4] (nameG 4) (yes) (bin ixG (varF 4) (varF 2)))))
    (setS 1 (bin addG (varF 1) (iteE (tst (bin eqG (fnB lenG (con (varF 3) (nil))) (cF (.int 1)))) (bin ixG (varF 3) (cF (.int 0))) (cF (.str [63])))))
noncomputable def b_law_states : SF :=
    seqS (ifS (tst (bin eqG (varF 0) (lstE (nil)))) (retS (cF .non)) (passS))
    (seqS (setS 1 (cF (.str [])))
    (seqS (forS (rng1F (con (fnB lenG (con (bin ixG (varF 0) (cF (.int 0))) (nil))) (nil))) (nameG 2) (l_law_states_1))
    (retS (varF 1))))
noncomputable def m_law_states : FF := fnF N_law_states 1 b_law_states
/-! law -/
def N_law_k03 : List Str := ["script", "tape", "turn", "known", "promises", "rows"]
noncomputable def l_law_k03_1 : SF :=
    seqS (asgS' (callF 3 m_law_case (con (varF 1) (con (cF (.int 9)) (con (cF (.int 5)) (nil))))) (tupG [(nameG 3), (nameG 4)]))
    (seqS (setS 5 (callF 2 m_law_rows (con (varF 3) (con (varF 4) (nil)))))
    (seqS (ifS (notT (tst (callF 2 m_law_like (con (callF 2 m_is_possible (con (varF 3) (con (varF 4) (nil)))) (con (bin neG (varF 5) (lstE (nil))) (nil)))))) (retS (cF (.bl false))) (passS))
    (seqS (ifS (notT (tst (callF 2 m_law_like (con (callF 2 m_day_states (con (varF 3) (con (varF 4) (nil)))) (con (callF 1 m_law_states (con (varF 5) (nil))) (nil)))))) (retS (cF (.bl false))) (passS))
    (ifS (notT (tst (callF 2 m_law_like (con (callF 2 m_day_states (con (varF 3) (con (tupE (nil)) (nil)))) (con (varF 3) (nil)))))) (retS (cF (.bl false))) (passS)))))
noncomputable def b_law_k03 : SF :=
    seqS (setS 1 (ownE (con (fnB listF (con (varF 0) (nil))) (con (cF (.int 0)) (con (cF (.int 0)) (nil))))))
    (seqS (forS (rng1F (con (cF (.int 4)) (nil))) (nameG 2) (l_law_k03_1))
    (retS (andE (bin isNG (callF 2 m_is_possible (con (cF (.str [102])) (con (tupE (con (tupE (con (cF (.str [98, 121])) (con (una negG (cF (.int 1))) (con (cF (.int 1)) (con (cF (.int 0)) (nil)))))) (nil))) (nil)))) (cF (.bl false))) (bin eqG (callF 2 m_day_states (con (cF (.str [63])) (con (tupE (con (tupE (con (cF (.str [111, 110])) (con (una negG (cF (.int 1))) (con (cF (.int 1)) (con (cF (.int 0)) (nil)))))) (nil))) (nil)))) (cF (.str [119]))))))
noncomputable def m_law_k03 : FF := fnF N_law_k03 1 b_law_k03
/-! number_range -/
def N_number_range : List Str := ["known", "promises", "first", "last", "table"]
noncomputable def b_number_range : SF :=
    seqS (setS 4 (callF 2 m_all_bounds (con (varF 0) (con (varF 1) (nil)))))
    (retS (iteE (tst (bin isntG (varF 4) (cF .non))) (callF 3 m_range_of (con (varF 4) (con (varF 2) (con (varF 3) (nil))))) (cF .non)))
noncomputable def m_number_range : FF := fnF N_number_range 4 b_number_range
/-! law -/
def N_law_k04 : List Str := ["script", "tape", "turn", "known", "promises", "rows", "first", "last", "some", "due", "row"]
noncomputable def l_law_k04_1 : SF :=
    seqS (setS 8 (ssF (compF (walkF (varF 5)) [10] (nameG 10) (yes) (meB' isStr cntG (slF slG (varF 10) (parF (varF 6)) (parF (bin addG (varF 7) (cF (.int 1))))) (con (cF (.str [119])) (nil))))))
    (seqS (setS 9 (iteE (tst (bin neG (varF 8) (lstE (nil)))) (tupE (con (bin ixG (varF 8) (cF (.int 0))) (con (bin ixG (varF 8) (una negG (cF (.int 1)))) (nil)))) (cF .non)))
    (seqS (ifS (notT (tst (callF 2 m_law_like (con (callF 4 m_number_range (con (varF 3) (con (varF 4) (con (varF 6) (con (varF 7) (nil)))))) (con (varF 9) (nil)))))) (retS (cF (.bl false))) (passS))
    (ifS (andT (tst (bin neG (varF 8) (lstE (nil)))) (tst (bin neG (varF 8) (lrF (bin ixG (varF 8) (cF (.int 0))) (bin addG (bin ixG (varF 8) (una negG (cF (.int 1)))) (cF (.int 1))))))) (retS (cF (.bl false))) (passS))))
noncomputable def l_law_k04_2 : SF :=
    forS (rng2F (con (varF 6) (con (fnB lenG (con (varF 3) (nil))) (nil)))) (nameG 7) (l_law_k04_1)
noncomputable def l_law_k04_3 : SF :=
    seqS (asgS' (callF 3 m_law_case (con (varF 1) (con (cF (.int 8)) (con (cF (.int 5)) (nil))))) (tupG [(nameG 3), (nameG 4)]))
    (seqS (setS 5 (callF 2 m_law_rows (con (varF 3) (con (varF 4) (nil)))))
    (forS (rng1F (con (fnB lenG (con (varF 3) (nil))) (nil))) (nameG 6) (l_law_k04_2)))
noncomputable def b_law_k04 : SF :=
    seqS (setS 1 (ownE (con (fnB listF (con (varF 0) (nil))) (con (cF (.int 0)) (con (cF (.int 0)) (nil))))))
    (seqS (forS (rng1F (con (cF (.int 2)) (nil))) (nameG 2) (l_law_k04_3))
    (retS (andE (bin eqG (callF 4 m_number_range (con (cF (.str [63, 63, 63])) (con (tupE (nil)) (con (cF (.int 0)) (con (cF (.int 2)) (nil)))))) (tupE (con (cF (.int 0)) (con (cF (.int 3)) (nil))))) (bin eqG (callF 4 m_number_range (con (cF (.str [119, 102, 63])) (con (tupE (nil)) (con (cF (.int 1)) (con (cF (.int 1)) (nil)))))) (tupE (con (cF (.int 0)) (con (cF (.int 0)) (nil))))))))
noncomputable def m_law_k04 : FF := fnF N_law_k04 1 b_law_k04
/-! law -/
def N_law_k05 : List Str := ["script", "tape", "turn", "row", "known", "promises", "states", "day", "more", "new", "ask", "first", "last", "middle", "low", "high", "one", "two", "further", "less", "own", "letter", "state"]
noncomputable def l_law_k05_1 : SF :=
    ifS (orT (tst (bin isNG (varF 19) (cF .non))) (notT (chain3T leG leG leG (varF 14) (bin ixG (varF 19) (cF (.int 0))) (bin ixG (varF 19) (cF (.int 1))) (varF 15)))) (retS (cF (.bl false))) (passS)
noncomputable def l_law_k05_2 : SF :=
    seqS (setS 11 (callF 2 m_law_draw (con (varF 1) (con (bin subG (fnB lenG (con (varF 3) (nil))) (cF (.int 1))) (nil)))))
    (seqS (setS 12 (bin addG (bin addG (varF 11) (cF (.int 1))) (callF 2 m_law_draw (con (varF 1) (con (bin subG (bin subG (fnB lenG (con (varF 3) (nil))) (cF (.int 1))) (varF 11)) (nil))))))
    (seqS (setS 13 (bin addG (varF 11) (callF 2 m_law_draw (con (varF 1) (con (bin subG (varF 12) (varF 11)) (nil))))))
    (seqS (asgS' (callF 4 m_number_range (con (varF 4) (con (varF 5) (con (varF 11) (con (varF 12) (nil)))))) (tupG [(nameG 14), (nameG 15)]))
    (seqS (ifS (notT (tst (chain leG leG (varF 14) (meB' isStr cntG (slF slG (varF 3) (parF (varF 11)) (parF (bin addG (varF 12) (cF (.int 1))))) (con (cF (.str [119])) (nil))) (varF 15)))) (retS (cF (.bl false))) (passS))
    (seqS (parS 16 17 (con (callF 4 m_number_range (con (varF 4) (con (varF 5) (con (varF 11) (con (varF 13) (nil)))))) (con (callF 4 m_number_range (con (varF 4) (con (varF 5) (con (bin addG (varF 13) (cF (.int 1))) (con (varF 12) (nil)))))) (nil))))
    (seqS (ifS (orT (notT (tst (bin leG (bin addG (bin ixG (varF 16) (cF (.int 0))) (bin ixG (varF 17) (cF (.int 0)))) (varF 14)))) (notT (tst (bin leG (varF 15) (bin addG (bin ixG (varF 16) (cF (.int 1))) (bin ixG (varF 17) (cF (.int 1)))))))) (retS (cF (.bl false))) (passS))
    (seqS (setS 18 (bin addG (varF 5) (fnB tupleG (con (varF 9) (nil)))))
    (forS (walkF (tupE (con (callF 4 m_number_range (con (varF 8) (con (varF 5) (con (varF 11) (con (varF 12) (nil)))))) (con (callF 4 m_number_range (con (varF 4) (con (varF 18) (con (varF 11) (con (varF 12) (nil)))))) (nil))))) (nameG 19) (l_law_k05_1)))))))))
noncomputable def l_law_k05_3 : SF :=
    seqS (setS 3 (callF 2 m_law_row (con (varF 1) (con (bin addG (cF (.int 12)) (callF 2 m_law_draw (con (varF 1) (con (cF (.int 20)) (nil))))) (nil)))))
    (seqS (setS 4 (callF 2 m_law_masked (con (varF 1) (con (varF 3) (nil)))))
    (seqS (setS 5 (fnB tupleG (con (compF (walkF (callF 3 m_law_promises (con (varF 1) (con (varF 3) (con (cF (.int 5)) (nil)))))) [20] (nameG 20) (tst (callF 2 m_law_keeps (con (varF 3) (con (varF 20) (nil))))) (varF 20)) (nil))))
    (seqS (setS 6 (callF 2 m_day_states (con (varF 4) (con (varF 5) (nil)))))
    (seqS (ifS (tst (bin isNG (varF 6) (cF .non))) (retS (cF (.bl false))) (passS))
    (seqS (ifS (tst (bin neG (compF (zipF (con (varF 3) (con (varF 6) (nil)))) [21, 22] (tupG [(nameG 21), (nameG 22)]) (tst (bin ninG (varF 22) (tupE (con (varF 21) (con (cF (.str [63])) (nil)))))) (cF (.int 1))) (lstE (nil)))) (retS (cF (.bl false))) (passS))
    (seqS (setS 7 (callF 2 m_law_draw (con (varF 1) (con (fnB lenG (con (varF 3) (nil))) (nil)))))
    (seqS (setS 8 (bin addG (bin addG (slF slG (varF 4) noP (parF (varF 7))) (bin ixG (varF 3) (varF 7))) (slF slG (varF 4) (parF (bin addG (varF 7) (cF (.int 1)))) noP)))
    (seqS (setS 9 (compF (walkF (lstE (con (callF 2 m_law_promise (con (varF 1) (con (varF 3) (nil)))) (nil)))) [20] (nameG 20) (tst (callF 2 m_law_keeps (con (varF 3) (con (varF 20) (nil))))) (varF 20)))
    (forS (rng1F (con (cF (.int 4)) (nil))) (nameG 10) (l_law_k05_2))))))))))
noncomputable def b_law_k05 : SF :=
    seqS (setS 1 (ownE (con (fnB listF (con (varF 0) (nil))) (con (cF (.int 0)) (con (cF (.int 0)) (nil))))))
    (seqS (forS (rng1F (con (cF (.int 3)) (nil))) (nameG 2) (l_law_k05_3))
    (retS (cF (.bl true))))
noncomputable def m_law_k05 : FF := fnF N_law_k05 1 b_law_k05
/-! row_of -/
def N_row_of : List Str := ["counts", "one", "other"]
noncomputable def b_row_of : SF :=
    retS (meB' isStr joinG (cF (.str [])) (con (compF (zipF (con (varF 0) (con (slF slG (varF 0) (parF (cF (.int 1))) noP) (nil)))) [1, 2] (tupG [(nameG 1), (nameG 2)]) (yes) (iteE (tst (bin gtG (varF 2) (varF 1))) (cF (.str [119])) (cF (.str [102])))) (nil)))
noncomputable def m_row_of : FF := fnF N_row_of 1 b_row_of
/-! least_row -/
def N_least_row : List Str := ["known", "promises", "table", "row"]
noncomputable def b_least_row : SF :=
    seqS (setS 2 (callF 2 m_all_bounds (con (varF 0) (con (varF 1) (nil)))))
    (retS (iteE (tst (bin isntG (varF 2) (cF .non))) (callF 1 m_row_of (con (compF (walkF (varF 2)) [3] (nameG 3) (yes) (una negG (bin ixG (varF 3) (cF (.int 0))))) (nil))) (cF .non)))
noncomputable def m_least_row : FF := fnF N_least_row 2 b_least_row
/-! greatest_row -/
def N_greatest_row : List Str := ["known", "promises", "table"]
noncomputable def b_greatest_row : SF :=
    seqS (setS 2 (callF 2 m_all_bounds (con (varF 0) (con (varF 1) (nil)))))
    (retS (iteE (tst (bin isntG (varF 2) (cF .non))) (callF 1 m_row_of (con (bin ixG (varF 2) (cF (.int 0))) (nil))) (cF .non)))
noncomputable def m_greatest_row : FF := fnF N_greatest_row 2 b_greatest_row
/-! fewest_working -/
def N_fewest_working : List Str := ["known", "promises", "table"]
noncomputable def b_fewest_working : SF :=
    seqS (setS 2 (callF 2 m_all_bounds (con (varF 0) (con (varF 1) (nil)))))
    (retS (iteE (tst (bin isntG (varF 2) (cF .non))) (una negG (bin ixG (bin ixG (varF 2) (una negG (cF (.int 1)))) (cF (.int 0)))) (cF .non)))
noncomputable def m_fewest_working : FF := fnF N_fewest_working 2 b_fewest_working
/-! most_working -/
def N_most_working : List Str := ["known", "promises", "table"]
noncomputable def b_most_working : SF :=
    seqS (setS 2 (callF 2 m_all_bounds (con (varF 0) (con (varF 1) (nil)))))
    (retS (iteE (tst (bin isntG (varF 2) (cF .non))) (bin ixG (bin ixG (varF 2) (cF (.int 0))) (una negG (cF (.int 1)))) (cF .non)))
noncomputable def m_most_working : FF := fnF N_most_working 2 b_most_working
/-! _law_up_to -/
def N_law_up_to : List Str := ["row", "day"]
noncomputable def b_law_up_to : SF :=
    retS (compF (rng1F (con (fnB lenG (con (varF 0) (nil))) (nil))) [1] (nameG 1) (yes) (meB' isStr cntG (slF slG (varF 0) noP (parF (bin addG (varF 1) (cF (.int 1))))) (con (cF (.str [119])) (nil))))
noncomputable def m_law_up_to : FF := fnF N_law_up_to 1 b_law_up_to
/-! law -/
def N_law_k06 : List Str := ["script", "tape", "turn", "known", "promises", "rows", "low", "high", "few", "many", "counts", "least", "most", "row", "held", "hidden", "less", "own", "more", "day"]
noncomputable def l_law_k06_1 : SF :=
    ifS (notT (tst (chain leG leG (varF 16) (varF 17) (varF 18)))) (retS (cF (.bl false))) (passS)
noncomputable def l_law_k06_2 : SF :=
    seqS (asgS' (callF 3 m_law_case (con (varF 1) (con (cF (.int 9)) (con (cF (.int 5)) (nil))))) (tupG [(nameG 3), (nameG 4)]))
    (seqS (setS 5 (callF 2 m_law_rows (con (varF 3) (con (varF 4) (nil)))))
    (seqS (parS 6 7 (con (callF 2 m_least_row (con (varF 3) (con (varF 4) (nil)))) (con (callF 2 m_greatest_row (con (varF 3) (con (varF 4) (nil)))) (nil))))
    (seqS (parS 8 9 (con (callF 2 m_fewest_working (con (varF 3) (con (varF 4) (nil)))) (con (callF 2 m_most_working (con (varF 3) (con (varF 4) (nil)))) (nil))))
    (seqS (ifS (tst (bin eqG (varF 5) (lstE (nil)))) (ifS (tst (bin neG (lstE (con (varF 6) (con (varF 7) (con (varF 8) (con (varF 9) (nil)))))) (bin mulG (lstE (con (cF .non) (nil))) (cF (.int 4))))) (retS (cF (.bl false))) (passS)) (seqS (ifS (orT (tst (bin ninG (varF 6) (varF 5))) (tst (bin ninG (varF 7) (varF 5)))) (retS (cF (.bl false))) (passS))
    (seqS (setS 10 (compF (walkF (varF 5)) [13] (nameG 13) (yes) (callF 1 m_law_up_to (con (varF 13) (nil)))))
    (seqS (setS 11 (compF (rng1F (con (fnB lenG (con (varF 3) (nil))) (nil))) [19] (nameG 19) (yes) (fnB minG (con (compF (walkF (varF 10)) [17] (nameG 17) (yes) (bin ixG (varF 17) (varF 19))) (nil)))))
    (seqS (setS 12 (compF (rng1F (con (fnB lenG (con (varF 3) (nil))) (nil))) [19] (nameG 19) (yes) (fnB maxG (con (compF (walkF (varF 10)) [17] (nameG 17) (yes) (bin ixG (varF 17) (varF 19))) (nil)))))
    (seqS (ifS (orT (tst (bin neG (callF 1 m_law_up_to (con (varF 6) (nil))) (varF 11))) (tst (bin neG (callF 1 m_law_up_to (con (varF 7) (nil))) (varF 12)))) (retS (cF (.bl false))) (passS))
    (ifS (notT (tst (callF 2 m_law_like (con (lstE (con (varF 8) (con (varF 9) (nil)))) (con (lstE (con (bin ixG (varF 11) (una negG (cF (.int 1)))) (con (bin ixG (varF 12) (una negG (cF (.int 1)))) (nil)))) (nil)))))) (retS (cF (.bl false))) (passS))))))))
    (seqS (setS 13 (callF 2 m_law_row (con (varF 1) (con (bin addG (cF (.int 10)) (callF 2 m_law_draw (con (varF 1) (con (cF (.int 22)) (nil))))) (nil)))))
    (seqS (setS 14 (fnB tupleG (con (compF (walkF (callF 3 m_law_promises (con (varF 1) (con (varF 13) (con (cF (.int 5)) (nil)))))) [17] (nameG 17) (tst (callF 2 m_law_keeps (con (varF 13) (con (varF 17) (nil))))) (varF 17)) (nil))))
    (seqS (setS 15 (callF 2 m_law_masked (con (varF 1) (con (varF 13) (nil)))))
    (seqS (parS 6 7 (con (callF 2 m_least_row (con (varF 15) (con (varF 14) (nil)))) (con (callF 2 m_greatest_row (con (varF 15) (con (varF 14) (nil)))) (nil))))
    (seqS (ifS (orT (notT (tst (callF 3 m_law_fits (con (varF 6) (con (varF 15) (con (varF 14) (nil))))))) (notT (tst (callF 3 m_law_fits (con (varF 7) (con (varF 15) (con (varF 14) (nil)))))))) (retS (cF (.bl false))) (passS))
    (forS (zip3F (con (callF 1 m_law_up_to (con (varF 6) (nil))) (con (callF 1 m_law_up_to (con (varF 13) (nil))) (con (callF 1 m_law_up_to (con (varF 7) (nil))) (nil))))) (tupG [(nameG 16), (nameG 17), (nameG 18)]) (l_law_k06_1)))))))))))
noncomputable def b_law_k06 : SF :=
    seqS (setS 1 (ownE (con (fnB listF (con (varF 0) (nil))) (con (cF (.int 0)) (con (cF (.int 0)) (nil))))))
    (seqS (forS (rng1F (con (cF (.int 4)) (nil))) (nameG 2) (l_law_k06_2))
    (retS (cF (.bl true))))
noncomputable def m_law_k06 : FF := fnF N_law_k06 1 b_law_k06
/-! follows -/
def N_follows : List Str := ["known", "promises", "promise", "table", "kind", "start", "count", "end", "early", "late"]
noncomputable def b_follows : SF :=
    seqS (setS 3 (callF 2 m_all_bounds (con (varF 0) (con (varF 1) (nil)))))
    (seqS (ifS (tst (bin isNG (varF 3) (cF .non))) (retS (cF (.bl true))) (passS))
    (seqS (asgS' (varF 2) (tupG [(nameG 4), (nameG 5), (nameG 6), (nameG 7)]))
    (seqS (setS 8 (bin geG (una negG (bin ixG (bin ixG (varF 3) (bin addG (varF 7) (cF (.int 1)))) (bin addG (varF 5) (cF (.int 1))))) (varF 6)))
    (seqS (setS 9 (bin ltG (bin ixG (bin ixG (varF 3) (bin addG (varF 5) (cF (.int 1)))) (varF 7)) (varF 6)))
    (seqS (ifS (tst (bin eqG (varF 4) (cF (.str [111, 110])))) (retS (andE (varF 8) (varF 9))) (passS))
    (retS (iteE (tst (bin eqG (varF 4) (cF (.str [98, 121])))) (varF 8) (varF 9))))))))
noncomputable def m_follows : FF := fnF N_follows 3 b_follows
/-! without -/
def N_without : List Str := ["promises", "index"]
noncomputable def b_without : SF :=
    retS (bin addG (slF slG (varF 0) noP (parF (varF 1))) (slF slG (varF 0) (parF (bin addG (varF 1) (cF (.int 1)))) noP))
noncomputable def m_without : FF := fnF N_without 2 b_without
/-! needless -/
def N_needless : List Str := ["known", "promises", "index", "promise"]
noncomputable def b_needless : SF :=
    retS (compO (enumF (con (varF 1) (nil))) [2, 3] (tupG [(nameG 2), (nameG 3)]) (tst (callF 3 m_follows (con (varF 0) (con (callF 2 m_without (con (varF 1) (con (varF 2) (nil)))) (con (varF 3) (nil)))))) (varF 2))
noncomputable def m_needless : FF := fnK N_needless 2 b_needless
/-! law -/
def N_law_k07 : List Str := ["script", "tape", "turn", "known", "promises", "rows", "ask", "base", "kind", "start", "count", "end", "told", "due", "own", "index", "promise", "others", "row"]
noncomputable def l_law_k07_1 : SF :=
    dropS (meB' isOwn appG (varF 13) (con (bin eqG (compF (walkF (varF 5)) [18] (nameG 18) (notT (tst (callF 2 m_law_keeps (con (varF 18) (con (tupE (con (varF 14) (con (varF 9) (con (varF 10) (con (varF 11) (nil)))))) (nil)))))) (varF 18)) (lstE (nil))) (nil)))
noncomputable def l_law_k07_2 : SF :=
    seqS (setS 7 (iteE (tst (bin neG (varF 5) (lstE (nil)))) (bin ixG (varF 5) (callF 2 m_law_draw (con (varF 1) (con (fnB lenG (con (varF 5) (nil))) (nil))))) (callF 2 m_law_row (con (varF 1) (con (fnB lenG (con (varF 3) (nil))) (nil))))))
    (seqS (asgS' (callF 2 m_law_promise (con (varF 1) (con (varF 7) (nil)))) (tupG [(nameG 8), (nameG 9), (nameG 10), (nameG 11)]))
    (seqS (setS 12 (compF (walkF (tupE (con (cF (.str [111, 110])) (con (cF (.str [98, 121])) (con (cF (.str [102, 114, 111, 109])) (nil)))))) [14] (nameG 14) (yes) (callF 3 m_follows (con (varF 3) (con (varF 4) (con (tupE (con (varF 14) (con (varF 9) (con (varF 10) (con (varF 11) (nil)))))) (nil)))))))
    (seqS (setS 13 (ownE (nil)))
    (seqS (forS (walkF (tupE (con (cF (.str [111, 110])) (con (cF (.str [98, 121])) (con (cF (.str [102, 114, 111, 109])) (nil)))))) (nameG 14) (l_law_k07_1))
    (ifS (orT (notT (tst (callF 2 m_law_like (con (varF 12) (con (varF 13) (nil)))))) (tst (bin neG (bin ixG (varF 12) (cF (.int 0))) (andE (bin ixG (varF 12) (cF (.int 1))) (bin ixG (varF 12) (cF (.int 2))))))) (retS (cF (.bl false))) (passS))))))
noncomputable def l_law_k07_3 : SF :=
    seqS (setS 17 (bin addG (slF slG (varF 4) noP (parF (varF 15))) (slF slG (varF 4) (parF (bin addG (varF 15) (cF (.int 1)))) noP)))
    (ifS (tst (bin eqG (compF (walkF (callF 2 m_law_rows (con (varF 3) (con (varF 17) (nil))))) [18] (nameG 18) (notT (tst (callF 2 m_law_keeps (con (varF 18) (con (varF 16) (nil)))))) (varF 18)) (lstE (nil)))) (dropS (meB' isOwn appG (varF 13) (con (varF 15) (nil)))) (passS))
noncomputable def l_law_k07_4 : SF :=
    seqS (asgS' (callF 3 m_law_case (con (varF 1) (con (cF (.int 8)) (con (cF (.int 4)) (nil))))) (tupG [(nameG 3), (nameG 4)]))
    (seqS (setS 5 (callF 2 m_law_rows (con (varF 3) (con (varF 4) (nil)))))
    (seqS (forS (rng1F (con (cF (.int 4)) (nil))) (nameG 6) (l_law_k07_2))
    (seqS (setS 13 (ownE (nil)))
    (seqS (forS (enumF (con (varF 4) (nil))) (tupG [(nameG 15), (nameG 16)]) (l_law_k07_3))
    (seqS (setS 12 (callF 2 m_needless (con (varF 3) (con (varF 4) (nil)))))
    (seqS (ifS (notT (tst (callF 2 m_law_like (con (varF 12) (con (varF 13) (nil)))))) (retS (cF (.bl false))) (passS))
    (seqS (dropS (meB' isOwn appG (varF 12) (con (cF .non) (nil))))
    (ifS (tst (bin neG (callF 2 m_needless (con (varF 3) (con (varF 4) (nil)))) (varF 13))) (retS (cF (.bl false))) (passS)))))))))
noncomputable def b_law_k07 : SF :=
    seqS (setS 1 (ownE (con (fnB listF (con (varF 0) (nil))) (con (cF (.int 0)) (con (cF (.int 0)) (nil))))))
    (seqS (forS (rng1F (con (cF (.int 3)) (nil))) (nameG 2) (l_law_k07_4))
    (retS (bin eqG (callF 2 m_needless (con (cF (.str [63, 63, 63])) (con (bin mulG (tupE (con (tupE (con (cF (.str [98, 121])) (con (una negG (cF (.int 1))) (con (cF (.int 1)) (con (cF (.int 2)) (nil)))))) (nil))) (cF (.int 2))) (nil)))) (lstE (con (cF (.int 0)) (con (cF (.int 1)) (nil)))))))
noncomputable def m_law_k07 : FF := fnF N_law_k07 1 b_law_k07
/-! reason -/
def N_reason : List Str := ["known", "promises", "groups", "index", "best", "group"]
noncomputable def l_reason_1 : SF :=
    dropS (meB' isOwn extG (varF 2) (con (compOw (varF 2) [5] (nameG 5) (yes) (tupE (starF (varF 5) (con (varF 3) (nil))))) (nil)))
noncomputable def l_reason_2 : SF :=
    ifS (orT (tst (bin isNG (varF 4) (cF .non))) (tst (bin ltG (fnB lenG (con (varF 5) (nil))) (fnB lenG (con (varF 4) (nil)))))) (ifS (notT (tst (callF 2 m_is_possible (con (varF 0) (con (fnB tupleG (con (compF (walkF (varF 5)) [3] (nameG 3) (yes) (bin ixG (varF 1) (varF 3))) (nil))) (nil)))))) (setS 4 (varF 5)) (passS)) (passS)
noncomputable def b_reason : SF :=
    seqS (ifS (tst (callF 2 m_is_possible (con (varF 0) (con (varF 1) (nil))))) (retS (cF .non)) (passS))
    (seqS (setS 2 (ownE (con (tupE (nil)) (nil))))
    (seqS (forS (rng1F (con (fnB lenG (con (varF 1) (nil))) (nil))) (nameG 3) (l_reason_1))
    (seqS (setS 4 (cF .non))
    (seqS (forOS (varF 2) (nameG 5) (l_reason_2))
    (retS (varF 4))))))
noncomputable def m_reason : FF := fnF N_reason 2 b_reason
/-! law -/
def N_law_k08 : List Str := ["script", "tape", "turn", "row", "known", "promises", "told", "groups", "index", "bad", "group"]
noncomputable def l_law_k08_1 : SF :=
    setS 7 (bin addG (varF 7) (compF (walkF (varF 7)) [10] (nameG 10) (yes) (bin addG (varF 10) (tupE (con (varF 8) (nil))))))
noncomputable def l_law_k08_2 : SF :=
    ifS (tst (bin eqG (callF 2 m_law_rows (con (varF 4) (con (fnB tupleG (con (compF (walkF (varF 10)) [8] (nameG 8) (yes) (bin ixG (varF 5) (varF 8))) (nil))) (nil)))) (lstE (nil)))) (dropS (meB' isOwn appG (varF 9) (con (varF 10) (nil)))) (passS)
noncomputable def l_law_k08_3 : SF :=
    seqS (setS 3 (callF 2 m_law_row (con (varF 1) (con (bin addG (cF (.int 2)) (callF 2 m_law_draw (con (varF 1) (con (cF (.int 7)) (nil))))) (nil)))))
    (seqS (setS 4 (callF 2 m_law_masked (con (varF 1) (con (varF 3) (nil)))))
    (seqS (setS 5 (bin addG (callF 3 m_law_promises (con (varF 1) (con (varF 3) (con (cF (.int 3)) (nil))))) (callF 3 m_law_promises (con (varF 1) (con (callF 2 m_law_row (con (varF 1) (con (fnB lenG (con (varF 3) (nil))) (nil)))) (con (cF (.int 2)) (nil)))))))
    (seqS (setS 6 (callF 2 m_reason (con (varF 4) (con (varF 5) (nil)))))
    (seqS (setS 7 (lstE (con (tupE (nil)) (nil))))
    (seqS (forS (rng1F (con (fnB lenG (con (varF 5) (nil))) (nil))) (nameG 8) (l_law_k08_1))
    (seqS (setS 9 (ownE (nil)))
    (seqS (forS (walkF (varF 7)) (nameG 10) (l_law_k08_2))
    (seqS (ifS (tst (bin neG (bin isNG (varF 6) (cF .non)) (bin eqG (varF 9) (lstE (nil))))) (retS (cF (.bl false))) (passS))
    (ifS (andT (tst (bin isntG (varF 6) (cF .non))) (orT (tst (bin ninG (varF 6) (varF 9))) (tst (bin neG (fnB lenG (con (varF 6) (nil))) (fnB minG (con (compOw (varF 9) [10] (nameG 10) (yes) (fnB lenG (con (varF 10) (nil)))) (nil))))))) (retS (cF (.bl false))) (passS))))))))))
noncomputable def b_law_k08 : SF :=
    seqS (setS 1 (ownE (con (fnB listF (con (varF 0) (nil))) (con (cF (.int 0)) (con (cF (.int 0)) (nil))))))
    (seqS (forS (rng1F (con (cF (.int 4)) (nil))) (nameG 2) (l_law_k08_3))
    (retS (andE (bin isNG (callF 2 m_reason (con (cF (.str [63])) (con (tupE (nil)) (nil)))) (cF .non)) (bin eqG (callF 2 m_reason (con (cF (.str [102])) (con (tupE (con (tupE (con (cF (.str [98, 121])) (con (una negG (cF (.int 1))) (con (cF (.int 1)) (con (cF (.int 0)) (nil)))))) (nil))) (nil)))) (tupE (con (cF (.int 0)) (nil)))))))
noncomputable def m_law_k08 : FF := fnF N_law_k08 1 b_law_k08
/-! possible_ends -/
def N_possible_ends : List Str := ["known", "promises", "start", "count", "found", "end"]
noncomputable def l_possible_ends_1 : SF :=
    ifS (tst (callF 2 m_is_possible (con (varF 0) (con (tupE (starF (varF 1) (con (tupE (con (cF (.str [111, 110])) (con (varF 2) (con (varF 3) (con (varF 5) (nil)))))) (nil)))) (nil))))) (dropS (meB' isOwn appG (varF 4) (con (varF 5) (nil)))) (passS)
noncomputable def b_possible_ends : SF :=
    seqS (setS 4 (ownE (nil)))
    (seqS (forS (rng2F (con (bin addG (varF 2) (cF (.int 1))) (con (fnB lenG (con (varF 0) (nil))) (nil)))) (nameG 5) (l_possible_ends_1))
    (retS (varF 4)))
noncomputable def m_possible_ends : FF := fnF N_possible_ends 4 b_possible_ends
/-! law -/
def N_law_k09 : List Str := ["script", "tape", "turn", "known", "promises", "rows", "ask", "start", "count", "due", "told", "late", "row", "day"]
noncomputable def l_law_k09_1 : SF :=
    seqS (asgS' (tupE (con (bin subG (callF 2 m_law_draw (con (varF 1) (con (fnB lenG (con (varF 3) (nil))) (nil)))) (cF (.int 1))) (con (bin addG (cF (.int 1)) (callF 2 m_law_draw (con (varF 1) (con (fnB lenG (con (varF 3) (nil))) (nil))))) (nil)))) (tupG [(nameG 7), (nameG 8)]))
    (seqS (setS 9 (ssF (compF (walkF (varF 5)) [12] (nameG 12) (yes) (callF 3 m_law_due (con (varF 12) (con (varF 7) (con (varF 8) (nil))))))))
    (seqS (setS 9 (compO (walkF (varF 9)) [13] (nameG 13) (tst (bin ltG (varF 13) (fnB lenG (con (varF 3) (nil))))) (varF 13)))
    (seqS (setS 10 (callF 4 m_possible_ends (con (varF 3) (con (varF 4) (con (varF 7) (con (varF 8) (nil)))))))
    (seqS (ifS (orT (notT (tst (callF 2 m_law_like (con (varF 10) (con (varF 9) (nil)))))) (tst (bin neG (compF (walkF (varF 10)) [13] (nameG 13) (tst (bin eqG (bin ixG (varF 3) (varF 13)) (cF (.str [102])))) (varF 13)) (lstE (nil))))) (retS (cF (.bl false))) (passS))
    (seqS (setS 11 (compF (walkF (varF 5)) [12] (nameG 12) (tst (bin eqG (callF 3 m_law_due (con (varF 12) (con (varF 7) (con (varF 8) (nil))))) (fnB lenG (con (varF 12) (nil))))) (varF 12)))
    (ifS (andT (tst (bin eqG (fnB lenG (con (varF 10) (nil))) (cF (.int 1)))) (tst (bin eqG (varF 11) (lstE (nil))))) (ifS (tst (bin isntG (callF 3 m_follows (con (varF 3) (con (varF 4) (con (tupE (con (cF (.str [111, 110])) (con (varF 7) (con (varF 8) (con (bin ixG (varF 10) (cF (.int 0))) (nil)))))) (nil))))) (cF (.bl true)))) (retS (cF (.bl false))) (passS)) (passS)))))))
noncomputable def l_law_k09_2 : SF :=
    seqS (asgS' (callF 3 m_law_case (con (varF 1) (con (cF (.int 8)) (con (cF (.int 4)) (nil))))) (tupG [(nameG 3), (nameG 4)]))
    (seqS (setS 5 (callF 2 m_law_rows (con (varF 3) (con (varF 4) (nil)))))
    (forS (rng1F (con (cF (.int 4)) (nil))) (nameG 6) (l_law_k09_1)))
noncomputable def b_law_k09 : SF :=
    seqS (setS 1 (ownE (con (fnB listF (con (varF 0) (nil))) (con (cF (.int 0)) (con (cF (.int 0)) (nil))))))
    (seqS (forS (rng1F (con (cF (.int 4)) (nil))) (nameG 2) (l_law_k09_2))
    (retS (andE (bin eqG (callF 4 m_possible_ends (con (cF (.str [119, 63, 102])) (con (tupE (nil)) (con (una negG (cF (.int 1))) (con (cF (.int 2)) (nil)))))) (lstE (con (cF (.int 1)) (nil)))) (bin eqG (callF 4 m_possible_ends (con (cF (.str [102])) (con (tupE (nil)) (con (una negG (cF (.int 1))) (con (cF (.int 1)) (nil)))))) (lstE (nil))))))
noncomputable def m_law_k09 : FF := fnF N_law_k09 1 b_law_k09
/-! started -/
def N_started : List Str := ["promises", "day", "left", "found", "promise", "own", "kind", "start", "count", "end"]
noncomputable def l_started_1 : SF :=
    seqS (asgS' (varF 4) (tupG [(nameG 6), (nameG 7), (nameG 8), (nameG 9)]))
    (seqS (ifS (tst (bin eqG (bin addG (varF 7) (cF (.int 1))) (varF 1))) (setS 5 (varF 8)) (passS))
    (seqS (ifS (andT (tst (bin isntG (varF 5) (cF .non))) (andT (tst (bin neG (varF 6) (cF (.str [98, 121])))) (tst (bin ltG (varF 5) (cF (.int 1)))))) (retS (cF .non)) (passS))
    (dropS (meB' isOwn appG (varF 3) (con (varF 5) (nil))))))
noncomputable def b_started : SF :=
    seqS (setS 3 (ownE (nil)))
    (seqS (forS (zipF (con (varF 0) (con (varF 2) (nil)))) (tupG [(nameG 4), (nameG 5)]) (l_started_1))
    (retS (fnB tupleG (con (varF 3) (nil)))))
noncomputable def m_started : FF := fnF N_started 3 b_started
/-! ended -/
def N_ended : List Str := ["promises", "day", "letter", "left", "found", "promise", "own", "kind", "start", "count", "end"]
noncomputable def l_ended_1 : SF :=
    seqS (asgS' (varF 5) (tupG [(nameG 7), (nameG 8), (nameG 9), (nameG 10)]))
    (seqS (ifS (tst (bin isntG (varF 6) (cF .non))) (seqS (setS 6 (fnB maxG (con (cF (.int 0)) (con (bin subG (varF 6) (fnB intOf (con (bin eqG (varF 2) (cF (.str [119]))) (nil)))) (nil)))))
    (ifS (tst (bin eqG (varF 1) (varF 10))) (seqS (ifS (andT (tst (bin neG (varF 7) (cF (.str [102, 114, 111, 109])))) (tst (bin gtG (varF 6) (cF (.int 0))))) (retS (cF .non)) (passS))
    (setS 6 (cF .non))) (passS))) (passS))
    (dropS (meB' isOwn appG (varF 4) (con (varF 6) (nil)))))
noncomputable def b_ended : SF :=
    seqS (setS 4 (ownE (nil)))
    (seqS (forS (zipF (con (varF 0) (con (varF 3) (nil)))) (tupG [(nameG 5), (nameG 6)]) (l_ended_1))
    (retS (fnB tupleG (con (varF 4) (nil)))))
noncomputable def m_ended : FF := fnF N_ended 4 b_ended
/-! Table.steps -/
def N_Table_steps : List Str := ["self", "day", "left", "here", "found", "letter", "later"]
noncomputable def l_Table_steps_1 : SF :=
    ifS (tst (bin inG (bin ixG (fldF 0 0 (varF 0)) (varF 1)) (tupE (con (varF 5) (con (cF (.str [63])) (nil)))))) (seqS (setS 6 (callF 4 m_ended (con (fldF 0 1 (varF 0)) (con (varF 1) (con (varF 5) (con (varF 3) (nil)))))))
    (ifS (tst (bin isntG (varF 6) (cF .non))) (dropS (meB' isOwn appG (varF 4) (con (tupE (con (varF 5) (con (varF 6) (nil)))) (nil)))) (passS))) (passS)
noncomputable def b_Table_steps : SF :=
    seqS (setS 3 (callF 3 m_started (con (fldF 0 1 (varF 0)) (con (varF 1) (con (varF 2) (nil))))))
    (seqS (setS 4 (ownE (nil)))
    (seqS (forS (walkF (iteE (tst (bin isntG (varF 3) (cF .non))) (cF (.str [102, 119])) (cF (.str [])))) (nameG 5) (l_Table_steps_1))
    (retS (varF 4))))
noncomputable def m_Table_steps : FF := fnF N_Table_steps 3 b_Table_steps
/-! Table.count -/
def N_Table_count : List Str := ["self", "day", "left", "total", "letter", "later"]
noncomputable def l_Table_count_1 (R : FF) : SF :=
    setS 3 (bin addG (varF 3) (methF 0 3 R (varF 0) (con (bin addG (varF 1) (cF (.int 1))) (con (varF 5) (nil)))))
noncomputable def b_Table_count (R : FF) : SF :=
    seqS (ifS (tst (bin eqG (varF 1) (fnB lenG (con (fldF 0 0 (varF 0)) (nil))))) (retS (cF (.int 1))) (passS))
    (seqS (ifS (tst (bin (inDk not) (tupE (con (varF 1) (con (varF 2) (nil)))) (fldF 0 2 (varF 0)))) (seqS (setS 3 (cF (.int 0)))
    (seqS (forS (walkF (methF 0 3 m_Table_steps (varF 0) (con (varF 1) (con (varF 2) (nil))))) (tupG [(nameG 4), (nameG 5)]) (l_Table_count_1 R))
    (asgS' (varF 3) (setD (fldF 0 2 (varF 0)) (tupE (con (varF 1) (con (varF 2) (nil)))))))) (passS))
    (retS (bin ixDk (fldF 0 2 (varF 0)) (tupE (con (varF 1) (con (varF 2) (nil)))))))
noncomputable def m_Table_count_n : Nat → FF
  | 0 => fun _ _ => .stuck
  | k + 1 => fnF N_Table_count 3 (b_Table_count (m_Table_count_n k))
noncomputable def m_Table_count : FF := m_Table_count_n 33
/-! Table.__init__ -/
def N_TableD__initD_ : List Str := ["self", "known", "promises"]
noncomputable def b_TableD__initD_ : SF :=
    seqS (setF 0 0 (varF 0) (varF 1))
    (seqS (setF 0 1 (varF 0) (varF 2))
    (setF 0 2 (varF 0) (dicE)))
noncomputable def m_TableD__initD_ : FF := fnK N_TableD__initD_ 3 b_TableD__initD_
/-! count_rows -/
def N_count_rows : List Str := ["known", "promises"]
noncomputable def b_count_rows : SF :=
    retS (methF 0 3 m_Table_count (makeF 0 3 m_TableD__initD_ (con (varF 0) (con (varF 1) (nil)))) (con (cF (.int 0)) (con (bin mulT (tupE (con (cF .non) (nil))) (fnB lenG (con (varF 1) (nil)))) (nil))))
noncomputable def m_count_rows : FF := fnF N_count_rows 2 b_count_rows
/-! row_at -/
def N_row_at : List Str := ["known", "promises", "number", "table", "left", "row", "rest", "day", "letter", "later", "count"]
noncomputable def l_row_at_1 : SF :=
    seqS (setS 10 (methF 0 3 m_Table_count (varF 3) (con (bin addG (varF 7) (cF (.int 1))) (con (varF 9) (nil)))))
    (seqS (ifS (tst (bin ltG (varF 6) (varF 10))) (seqS (parS 5 4 (con (bin addG (varF 5) (varF 8)) (con (varF 9) (nil))))
    (brkS)) (passS))
    (augS (fun i j => i - j) 6 (varF 10)))
noncomputable def l_row_at_2 : SF :=
    forS (walkF (methF 0 3 m_Table_steps (varF 3) (con (varF 7) (con (varF 4) (nil))))) (tupG [(nameG 8), (nameG 9)]) (l_row_at_1)
noncomputable def b_row_at : SF :=
    seqS (par3S 3 4 5 (con (makeF 0 3 m_TableD__initD_ (con (varF 0) (con (varF 1) (nil)))) (con (bin mulT (tupE (con (cF .non) (nil))) (fnB lenG (con (varF 1) (nil)))) (con (cF (.str [])) (nil)))))
    (seqS (ifS (tst (bin geG (varF 2) (methF 0 3 m_Table_count (varF 3) (con (cF (.int 0)) (con (varF 4) (nil)))))) (retS (cF .non)) (passS))
    (seqS (setS 6 (varF 2))
    (seqS (forS (rng1F (con (fnB lenG (con (varF 0) (nil))) (nil))) (nameG 7) (l_row_at_2))
    (retS (varF 5)))))
noncomputable def m_row_at : FF := fnF N_row_at 3 b_row_at
/-! law -/
def N_law_k11 : List Str := ["script", "tape", "turn", "row", "known", "promises", "many", "before", "number", "own", "day", "state", "some", "parts", "kind", "start", "count", "end", "early", "late"]
noncomputable def l_law_k11_1 : SF :=
    seqS (setS 9 (callF 3 m_row_at (con (varF 4) (con (varF 5) (con (varF 8) (nil))))))
    (seqS (ifS (orT (tst (bin isNG (varF 9) (cF .non))) (orT (notT (tst (callF 3 m_law_fits (con (varF 9) (con (varF 4) (con (varF 5) (nil))))))) (tst (bin ltS (varF 9) (varF 7))))) (retS (cF (.bl false))) (passS))
    (setS 7 (varF 9)))
noncomputable def l_law_k11_2 : SF :=
    seqS (setS 12 (compF (walkF (cF (.str [119, 102]))) [9] (nameG 9) (tst (bin inG (bin ixG (varF 4) (varF 10)) (tupE (con (varF 9) (con (cF (.str [63])) (nil)))))) (varF 9)))
    (seqS (setS 13 (compF (walkF (varF 12)) [9] (nameG 9) (yes) (callF 2 m_count_rows (con (bin addG (bin addG (slF slG (varF 4) noP (parF (varF 10))) (varF 9)) (slF slG (varF 4) (parF (bin addG (varF 10) (cF (.int 1)))) noP)) (con (varF 5) (nil))))))
    (ifS (orT (tst (bin neG (fnB sumG (con (varF 13) (nil))) (varF 6))) (tst (bin neG (bin eqG (varF 11) (cF (.str [63]))) (andE (bin ninG (cF (.int 0)) (varF 13)) (bin eqG (fnB lenG (con (varF 13) (nil))) (cF (.int 2))))))) (retS (cF (.bl false))) (passS)))
noncomputable def l_law_k11_3 : SF :=
    seqS (setS 3 (callF 2 m_law_row (con (varF 1) (con (bin addG (cF (.int 10)) (callF 2 m_law_draw (con (varF 1) (con (cF (.int 16)) (nil))))) (nil)))))
    (seqS (setS 4 (callF 2 m_law_masked (con (varF 1) (con (varF 3) (nil)))))
    (seqS (setS 5 (fnB tupleG (con (compF (walkF (callF 3 m_law_promises (con (varF 1) (con (varF 3) (con (cF (.int 4)) (nil)))))) [9] (nameG 9) (tst (callF 2 m_law_keeps (con (varF 3) (con (varF 9) (nil))))) (varF 9)) (nil))))
    (seqS (setS 6 (callF 2 m_count_rows (con (varF 4) (con (varF 5) (nil)))))
    (seqS (ifS (tst (bin ltG (varF 6) (cF (.int 1)))) (retS (cF (.bl false))) (passS))
    (seqS (setS 7 (cF (.str [])))
    (seqS (forS (walkF (fnB ordG (con (lstE (con (cF (.int 0)) (con (bin subG (varF 6) (cF (.int 1))) (con (callF 2 m_law_draw (con (varF 1) (con (varF 6) (nil)))) (con (callF 2 m_law_draw (con (varF 1) (con (varF 6) (nil)))) (nil)))))) (nil)))) (nameG 8) (l_law_k11_1))
    (seqS (ifS (tst (bin isntG (callF 3 m_row_at (con (varF 4) (con (varF 5) (con (varF 6) (nil))))) (cF .non))) (retS (cF (.bl false))) (passS))
    (seqS (forS (enumF (con (callF 2 m_day_states (con (varF 4) (con (varF 5) (nil)))) (nil))) (tupG [(nameG 10), (nameG 11)]) (l_law_k11_2))
    (seqS (asgS' (callF 2 m_law_promise (con (varF 1) (con (varF 3) (nil)))) (tupG [(nameG 14), (nameG 15), (nameG 16), (nameG 17)]))
    (seqS (setS 18 (callF 2 m_count_rows (con (varF 4) (con (bin addG (varF 5) (tupE (con (tupE (con (cF (.str [98, 121])) (con (varF 15) (con (varF 16) (con (varF 17) (nil)))))) (nil)))) (nil)))))
    (ifS (tst (bin ltG (varF 17) (bin subG (fnB lenG (con (varF 4) (nil))) (cF (.int 1))))) (seqS (setS 19 (callF 2 m_count_rows (con (varF 4) (con (bin addG (varF 5) (tupE (con (tupE (con (cF (.str [102, 114, 111, 109])) (con (varF 15) (con (varF 16) (con (bin addG (varF 17) (cF (.int 1))) (nil)))))) (nil)))) (nil)))))
    (ifS (tst (bin neG (bin addG (varF 18) (varF 19)) (varF 6))) (retS (cF (.bl false))) (passS))) (passS))))))))))))
noncomputable def b_law_k11 : SF :=
    seqS (setS 1 (ownE (con (fnB listF (con (varF 0) (nil))) (con (cF (.int 0)) (con (cF (.int 0)) (nil))))))
    (seqS (forS (rng1F (con (cF (.int 2)) (nil))) (nameG 2) (l_law_k11_3))
    (retS (cF (.bl true))))
noncomputable def m_law_k11 : FF := fnF N_law_k11 1 b_law_k11
/-! nearest -/
def N_nearest : List Str := ["known", "promises", "week", "table", "layer", "day", "later", "left", "count", "row", "letter", "then", "total", "best", "found"]
noncomputable def l_nearest_1 : SF :=
    seqS (setS 12 (bin addG (varF 8) (fnB intOf (con (bin neG (varF 10) (bin ixG (varF 2) (bin modG (varF 5) (cF (.int 7))))) (nil)))))
    (ifS (orT (tst (bin (inDk not) (varF 11) (varF 6))) (tst (bin ltG (varF 12) (bin ixG (bin ixDk (varF 6) (varF 11)) (cF (.int 0)))))) (asgS' (tupE (con (varF 12) (con (bin addG (varF 9) (varF 10)) (nil)))) (setD (varF 6) (varF 11))) (passS))
noncomputable def l_nearest_2 : SF :=
    forS (walkF (methF 0 3 m_Table_steps (varF 3) (con (varF 5) (con (varF 7) (nil))))) (tupG [(nameG 10), (nameG 11)]) (l_nearest_1)
noncomputable def l_nearest_3 : SF :=
    seqS (setS 6 (dicE))
    (seqS (forS (walkD (varF 4)) (tupG [(nameG 7), (tupG [(nameG 8), (nameG 9)])]) (l_nearest_2))
    (setS 4 (varF 6)))
noncomputable def l_nearest_4 : SF :=
    ifS (orT (tst (bin isNG (varF 13) (cF .non))) (tst (bin ltG (bin ixG (varF 14) (cF (.int 0))) (bin ixG (varF 13) (cF (.int 0)))))) (setS 13 (varF 14)) (passS)
noncomputable def b_nearest : SF :=
    seqS (setS 3 (makeF 0 3 m_TableD__initD_ (con (varF 0) (con (varF 1) (nil)))))
    (seqS (setS 4 (dic1E (bin mulT (tupE (con (cF .non) (nil))) (fnB lenG (con (varF 1) (nil)))) (tupE (con (cF (.int 0)) (con (cF (.str [])) (nil))))))
    (seqS (forS (rng1F (con (fnB lenG (con (varF 0) (nil))) (nil))) (nameG 5) (l_nearest_3))
    (seqS (setS 13 (cF .non))
    (seqS (forS (walkD (varF 4)) (tupG [(nameG 7), (nameG 14)]) (l_nearest_4))
    (retS (varF 13))))))
noncomputable def m_nearest : FF := fnF N_nearest 3 b_nearest
/-! fewest_exceptions -/
def N_fewest_exceptions : List Str := ["known", "promises", "week", "found"]
noncomputable def b_fewest_exceptions : SF :=
    seqS (setS 3 (callF 3 m_nearest (con (varF 0) (con (varF 1) (con (varF 2) (nil))))))
    (retS (iteE (tst (bin isntG (varF 3) (cF .non))) (bin ixG (varF 3) (cF (.int 0))) (cF .non)))
noncomputable def m_fewest_exceptions : FF := fnF N_fewest_exceptions 3 b_fewest_exceptions
/-! row_near -/
def N_row_near : List Str := ["known", "promises", "week", "found"]
noncomputable def b_row_near : SF :=
    seqS (setS 3 (callF 3 m_nearest (con (varF 0) (con (varF 1) (con (varF 2) (nil))))))
    (retS (iteE (tst (bin isntG (varF 3) (cF .non))) (bin ixG (varF 3) (cF (.int 1))) (cF .non)))
noncomputable def m_row_near : FF := fnF N_row_near 3 b_row_near
/-! _law_exceptions -/
def N_law_exceptions : List Str := ["row", "week", "day"]
noncomputable def b_law_exceptions : SF :=
    retS (fnB lenG (con (compF (rng1F (con (fnB lenG (con (varF 0) (nil))) (nil))) [2] (nameG 2) (tst (bin neG (bin ixG (varF 0) (varF 2)) (bin ixG (varF 1) (bin modG (varF 2) (cF (.int 7)))))) (varF 2)) (nil)))
noncomputable def m_law_exceptions : FF := fnF N_law_exceptions 2 b_law_exceptions
/-! law -/
def N_law_k12 : List Str := ["script", "tape", "turn", "known", "promises", "rows", "ask", "week", "told", "near", "due", "row"]
noncomputable def l_law_k12_1 : SF :=
    seqS (setS 7 (callF 2 m_law_row (con (varF 1) (con (cF (.int 7)) (nil)))))
    (seqS (ifS (andT (tst (bin neG (varF 5) (lstE (nil)))) (tst (bin eqG (callF 2 m_law_draw (con (varF 1) (con (cF (.int 2)) (nil)))) (cF (.int 0))))) (setS 7 (slF slG (bin addG (bin ixG (varF 5) (callF 2 m_law_draw (con (varF 1) (con (fnB lenG (con (varF 5) (nil))) (nil))))) (varF 7)) noP (parF (cF (.int 7))))) (passS))
    (seqS (parS 8 9 (con (callF 3 m_fewest_exceptions (con (varF 3) (con (varF 4) (con (varF 7) (nil))))) (con (callF 3 m_row_near (con (varF 3) (con (varF 4) (con (varF 7) (nil))))) (nil))))
    (ifS (tst (bin eqG (varF 5) (lstE (nil)))) (ifS (orT (tst (bin isntG (varF 8) (cF .non))) (tst (bin isntG (varF 9) (cF .non)))) (retS (cF (.bl false))) (passS)) (seqS (setS 10 (fnB minG (con (compF (walkF (varF 5)) [11] (nameG 11) (yes) (callF 2 m_law_exceptions (con (varF 11) (con (varF 7) (nil))))) (nil))))
    (ifS (orT (notT (tst (callF 2 m_law_like (con (varF 8) (con (varF 10) (nil)))))) (orT (tst (bin ninG (varF 9) (varF 5))) (tst (bin neG (callF 2 m_law_exceptions (con (varF 9) (con (varF 7) (nil)))) (varF 10))))) (retS (cF (.bl false))) (passS))))))
noncomputable def l_law_k12_2 : SF :=
    seqS (asgS' (callF 3 m_law_case (con (varF 1) (con (cF (.int 9)) (con (cF (.int 5)) (nil))))) (tupG [(nameG 3), (nameG 4)]))
    (seqS (setS 5 (callF 2 m_law_rows (con (varF 3) (con (varF 4) (nil)))))
    (forS (rng1F (con (cF (.int 3)) (nil))) (nameG 6) (l_law_k12_1)))
noncomputable def b_law_k12 : SF :=
    seqS (setS 1 (ownE (con (fnB listF (con (varF 0) (nil))) (con (cF (.int 0)) (con (cF (.int 0)) (nil))))))
    (seqS (forS (rng1F (con (cF (.int 4)) (nil))) (nameG 2) (l_law_k12_2))
    (retS (andE (bin eqG (callF 3 m_fewest_exceptions (con (cF (.str [119, 119, 119, 119, 119, 102, 102])) (con (tupE (nil)) (con (cF (.str [119, 119, 119, 119, 119, 102, 102])) (nil))))) (cF (.int 0))) (bin eqG (callF 3 m_fewest_exceptions (con (bin mulG (cF (.str [102])) (cF (.int 31))) (con (tupE (nil)) (con (bin mulG (cF (.str [119])) (cF (.int 7))) (nil))))) (cF (.int 31))))))
noncomputable def m_law_k12 : FF := fnF N_law_k12 1 b_law_k12
/-! _law_few -/
def N_law_few : List Str := ["row", "found", "total", "place", "some", "free", "good", "longer", "week", "day", "letter"]
noncomputable def l_law_few_1 : SF :=
    setS 7 (bin addG (varF 7) (compF (walkF (varF 6)) [10] (nameG 10) (yes) (bin addG (varF 8) (varF 10))))
noncomputable def l_law_few_2 : SF :=
    seqS (setS 4 (compF (rng3F (con (varF 3) (con (fnB lenG (con (varF 0) (nil))) (con (cF (.int 7)) (nil))))) [9] (nameG 9) (yes) (bin ixG (varF 0) (varF 9))))
    (seqS (setS 5 (meB' isLst cntL (varF 4) (con (cF (.str [102])) (nil))))
    (seqS (setS 2 (bin addG (varF 2) (fnB minG (con (varF 5) (con (bin subG (fnB lenG (con (varF 4) (nil))) (varF 5)) (nil))))))
    (seqS (setS 6 (compF (walkF (cF (.str [102, 119]))) [10] (nameG 10) (tst (bin geG (bin mulG (meB' isLst cntL (varF 4) (con (varF 10) (nil))) (cF (.int 2))) (fnB lenG (con (varF 4) (nil))))) (varF 10)))
    (seqS (setS 7 (lstE (nil)))
    (seqS (forS (walkF (varF 1)) (nameG 8) (l_law_few_1))
    (setS 1 (varF 7)))))))
noncomputable def b_law_few : SF :=
    seqS (parS 1 2 (con (lstE (con (cF (.str [])) (nil))) (con (cF (.int 0)) (nil))))
    (seqS (forS (rng1F (con (cF (.int 7)) (nil))) (nameG 3) (l_law_few_2))
    (retS (tupE (con (varF 2) (con (varF 1) (nil))))))
noncomputable def m_law_few : FF := fnF N_law_few 1 b_law_few
/-! all_weeks -/
def N_all_weeks : List Str := ["found", "day", "week", "letter"]
noncomputable def l_all_weeks_1 : SF :=
    setS 0 (comp2F (walkF (varF 0)) [2, 3] (nameG 2) (yes) (walkF (cF (.str [102, 119]))) [3] (nameG 3) (yes) (bin addG (varF 2) (varF 3)))
noncomputable def b_all_weeks : SF :=
    seqS (setS 0 (lstE (con (cF (.str [])) (nil))))
    (seqS (forS (rng1F (con (cF (.int 7)) (nil))) (nameG 1) (l_all_weeks_1))
    (retS (varF 0)))
noncomputable def m_all_weeks : FF := fnF N_all_weeks 0 b_all_weeks
/-! best_weeks -/
def N_best_weeks : List Str := ["known", "promises", "best", "found", "week", "count"]
noncomputable def l_best_weeks_1 : SF :=
    seqS (setS 5 (callF 3 m_fewest_exceptions (con (varF 0) (con (varF 1) (con (varF 4) (nil))))))
    (seqS (ifS (andT (tst (bin isntG (varF 5) (cF .non))) (tst (bin ltG (varF 5) (varF 2)))) (parS 2 3 (con (varF 5) (con (ownE (nil)) (nil)))) (passS))
    (ifS (tst (bin eqG (varF 5) (varF 2))) (dropS (meB' isOwn appG (varF 3) (con (varF 4) (nil)))) (passS)))
noncomputable def b_best_weeks : SF :=
    seqS (parS 2 3 (con (fnB lenG (con (varF 0) (nil))) (con (ownE (nil)) (nil))))
    (seqS (forS (walkF (callF 0 m_all_weeks nil)) (nameG 4) (l_best_weeks_1))
    (retS (varF 3)))
noncomputable def m_best_weeks : FF := fnF N_best_weeks 2 b_best_weeks
/-! law -/
def N_law_k13 : List Str := ["script", "tape", "turn", "row", "known", "promises", "rows", "parts", "due", "least", "total", "weeks", "told", "week", "own", "part"]
noncomputable def l_law_k13_1 : SF :=
    setS 8 (bin addG (varF 8) (iteE (tst (bin eqG (varF 10) (varF 9))) (varF 11) (lstE (nil))))
noncomputable def l_law_k13_2 : SF :=
    ifS (tst (bin neG (callF 3 m_fewest_exceptions (con (varF 4) (con (varF 5) (con (varF 13) (nil))))) (varF 9))) (retS (cF (.bl false))) (passS)
noncomputable def l_law_k13_3 : SF :=
    seqS (setS 3 (callF 2 m_law_row (con (varF 1) (con (bin addG (cF (.int 8)) (callF 2 m_law_draw (con (varF 1) (con (cF (.int 4)) (nil))))) (nil)))))
    (seqS (setS 4 (callF 2 m_law_masked (con (varF 1) (con (varF 3) (nil)))))
    (seqS (setS 5 (callF 3 m_law_promises (con (varF 1) (con (varF 3) (con (cF (.int 3)) (nil))))))
    (seqS (setS 6 (callF 2 m_law_rows (con (varF 4) (con (varF 5) (nil)))))
    (seqS (setS 7 (compF (walkF (varF 6)) [14] (nameG 14) (yes) (callF 1 m_law_few (con (varF 14) (nil)))))
    (seqS (parS 8 9 (con (lstE (nil)) (con (cF .non) (nil))))
    (seqS (ifS (tst (bin neG (varF 7) (lstE (nil)))) (seqS (setS 9 (fnB minG (con (compF (walkF (varF 7)) [15] (nameG 15) (yes) (bin ixG (varF 15) (cF (.int 0)))) (nil))))
    (forS (walkF (varF 7)) (tupG [(nameG 10), (nameG 11)]) (l_law_k13_1))) (passS))
    (seqS (setS 12 (callF 2 m_best_weeks (con (varF 4) (con (varF 5) (nil)))))
    (seqS (ifS (notT (tst (callF 2 m_law_like (con (varF 12) (con (ssF (varF 8)) (nil)))))) (retS (cF (.bl false))) (passS))
    (forS (walkF (slF slG (varF 12) noP (parF (cF (.int 3))))) (nameG 13) (l_law_k13_2))))))))))
noncomputable def b_law_k13 : SF :=
    seqS (setS 1 (ownE (con (fnB listF (con (varF 0) (nil))) (con (cF (.int 0)) (con (cF (.int 0)) (nil))))))
    (seqS (forS (walkF (tupE (con (cF (.int 0)) (nil)))) (nameG 2) (l_law_k13_3))
    (retS (andE (bin eqG (callF 2 m_best_weeks (con (cF (.str [102])) (con (tupE (con (tupE (con (cF (.str [98, 121])) (con (una negG (cF (.int 1))) (con (cF (.int 1)) (con (cF (.int 0)) (nil)))))) (nil))) (nil)))) (lstE (nil))) (bin eqG (callF 2 m_best_weeks (con (bin mulG (cF (.str [119, 119, 119, 119, 119, 102, 102])) (cF (.int 2))) (con (tupE (nil)) (nil)))) (lstE (con (cF (.str [119, 119, 119, 119, 119, 102, 102])) (nil)))))))
noncomputable def m_law_k13 : FF := fnF N_law_k13 1 b_law_k13
/-! Days.__init__ -/
def N_DaysD__initD_ : List Str := ["self", "text", "day", "letter"]
noncomputable def b_DaysD__initD_ : SF :=
    seqS (ifS (notT (tst (callF 1 m_is_row (con (varF 1) (nil))))) (raiseS 0) (passS))
    (seqS (setF 1 0 (varF 0) (varF 1))
    (setF 1 1 (varF 0) (fnB tupleG (con (compF (enumF (con (varF 1) (nil))) [2, 3] (tupG [(nameG 2), (nameG 3)]) (tst (bin eqG (varF 3) (cF (.str [119])))) (varF 2)) (nil)))))
noncomputable def m_DaysD__initD_ : FF := fnK N_DaysD__initD_ 2 b_DaysD__initD_
/-! Days.after -/
def N_Days_after_v1 : List Str := ["self", "start", "count", "days", "due"]
noncomputable def b_Days_after_v1 : SF :=
    seqS (setS 3 (fnB lenG (con (fldF 1 0 (varF 0)) (nil))))
    (seqS (ifS (orT (notT (tst (callF 3 m_is_integer (con (varF 1) (con (una negG (cF (.int 1))) (con (bin subG (varF 3) (cF (.int 2))) (nil))))))) (notT (tst (callF 3 m_is_integer (con (varF 2) (con (cF (.int 1)) (con (varF 3) (nil)))))))) (raiseS 2) (passS))
    (seqS (setS 4 (callF 3 m_due_day (con (fldF 1 0 (varF 0)) (con (varF 1) (con (varF 2) (nil))))))
    (seqS (ifS (tst (bin eqG (varF 4) (varF 3))) (raiseS 3) (passS))
    (retS (varF 4)))))
noncomputable def m_Days_after_v1 : FF := fnF N_Days_after_v1 3 b_Days_after_v1
/-! _law_after -/
def N_law_after : List Str := ["days", "start", "count"]
noncomputable def b_law_after : SF :=
    tryC [2, 3] (retS (methF 1 3 m_Days_after_v1 (varF 0) (con (varF 1) (con (varF 2) (nil))))) [(3, retS (cF (.str [110, 111, 110, 101]))), (2, retS (cF (.str [110, 117, 109, 98, 101, 114])))]
noncomputable def m_law_after : FF := fnF N_law_after 3 b_law_after
/-! Days.between -/
def N_Days_between_v1 : List Str := ["self", "one", "other", "days", "day"]
noncomputable def b_Days_between_v1 : SF :=
    seqS (setS 3 (fnB lenG (con (fldF 1 0 (varF 0)) (nil))))
    (seqS (ifS (orT (notT (tst (callF 3 m_is_integer (con (varF 1) (con (una negG (cF (.int 1))) (con (bin subG (varF 3) (cF (.int 1))) (nil))))))) (notT (tst (callF 3 m_is_integer (con (varF 2) (con (varF 1) (con (bin subG (varF 3) (cF (.int 1))) (nil)))))))) (raiseS 2) (passS))
    (retS (fnB lenG (con (compF (walkF (fldF 1 1 (varF 0))) [4] (nameG 4) (tst (chain ltG leG (varF 1) (varF 4) (varF 2))) (varF 4)) (nil)))))
noncomputable def m_Days_between_v1 : FF := fnF N_Days_between_v1 3 b_Days_between_v1
/-! Days.__contains__ -/
def N_DaysD__containsD_ : List Str := ["self", "x"]
noncomputable def b_DaysD__containsD_ : SF :=
    retS (andE (callF 3 m_is_integer (con (varF 1) (con (cF (.int 0)) (con (bin subG (fnB lenG (con (fldF 1 0 (varF 0)) (nil))) (cF (.int 1))) (nil))))) (bin eqG (bin ixG (fldF 1 0 (varF 0)) (varF 1)) (cF (.str [119]))))
noncomputable def m_DaysD__containsD_ : FF := fnF N_DaysD__containsD_ 2 b_DaysD__containsD_
/-! _law_between -/
def N_law_between : List Str := ["days", "one", "other"]
noncomputable def b_law_between : SF :=
    tryC [2] (retS (methF 1 3 m_Days_between_v1 (varF 0) (con (varF 1) (con (varF 2) (nil))))) [(2, retS (cF (.str [110, 117, 109, 98, 101, 114])))]
noncomputable def m_law_between : FF := fnF N_law_between 3 b_law_between
/-! law -/
def N_law_k15 : List Str := ["script", "tape", "turn", "row", "many", "days", "ask", "start", "count", "good", "due", "one", "other", "told"]
noncomputable def l_law_k15_1 : SF :=
    seqS (setS 7 (bin ixG (lstE (con (bin subG (callF 2 m_law_draw (con (varF 1) (con (varF 4) (nil)))) (cF (.int 1))) (con (bin subG (callF 2 m_law_draw (con (varF 1) (con (varF 4) (nil)))) (cF (.int 1))) (con (una negG (cF (.int 2))) (con (bin subG (varF 4) (cF (.int 1))) (con (cF (.bl true)) (con (cF .non) (nil)))))))) (callF 2 m_law_draw (con (varF 1) (con (cF (.int 6)) (nil))))))
    (seqS (setS 8 (bin ixG (lstE (con (bin addG (cF (.int 1)) (callF 2 m_law_draw (con (varF 1) (con (varF 4) (nil))))) (con (bin addG (cF (.int 1)) (callF 2 m_law_draw (con (varF 1) (con (fnB minG (con (cF (.int 4)) (con (varF 4) (nil)))) (nil))))) (con (cF (.int 0)) (con (bin addG (varF 4) (cF (.int 1))) (nil)))))) (callF 2 m_law_draw (con (varF 1) (con (cF (.int 4)) (nil))))))
    (seqS (setS 9 (andE (callF 3 m_law_within (con (varF 7) (con (una negG (cF (.int 1))) (con (bin subG (varF 4) (cF (.int 2))) (nil))))) (callF 3 m_law_within (con (varF 8) (con (cF (.int 1)) (con (varF 4) (nil)))))))
    (seqS (setS 10 (cF (.str [110, 117, 109, 98, 101, 114])))
    (seqS (ifS (tst (varF 9)) (seqS (setS 10 (callF 3 m_law_due (con (varF 3) (con (varF 7) (con (varF 8) (nil))))))
    (setS 10 (iteE (tst (bin ltG (varF 10) (varF 4))) (varF 10) (cF (.str [110, 111, 110, 101]))))) (passS))
    (seqS (ifS (notT (tst (callF 2 m_law_like (con (callF 3 m_law_after (con (varF 5) (con (varF 7) (con (varF 8) (nil))))) (con (varF 10) (nil)))))) (retS (cF (.bl false))) (passS))
    (seqS (ifS (andT (tst (varF 9)) (tst (bin neG (varF 10) (cF (.str [110, 111, 110, 101]))))) (seqS (ifS (orT (tst (bin neG (methF 1 3 m_Days_between_v1 (varF 5) (con (varF 7) (con (varF 10) (nil)))) (varF 8))) (tst (bin (ninO 2 1 m_DaysD__containsD_) (varF 10) (varF 5)))) (retS (cF (.bl false))) (passS))
    (ifS (tst (bin isntG (callF 2 m_keeps (con (varF 3) (con (tupE (con (cF (.str [111, 110])) (con (varF 7) (con (varF 8) (con (varF 10) (nil)))))) (nil)))) (cF (.bl true)))) (retS (cF (.bl false))) (passS))) (passS))
    (seqS (setS 11 (bin ixG (lstE (con (bin subG (callF 2 m_law_draw (con (varF 1) (con (bin addG (varF 4) (cF (.int 1))) (nil)))) (cF (.int 1))) (con (una negG (cF (.int 2))) (con (varF 4) (con (cF .non) (con (cF (.bl true)) (nil))))))) (callF 2 m_law_draw (con (varF 1) (con (cF (.int 5)) (nil))))))
    (seqS (setS 12 (bin ixG (lstE (con (bin subG (callF 2 m_law_draw (con (varF 1) (con (bin addG (varF 4) (cF (.int 1))) (nil)))) (cF (.int 1))) (con (bin subG (varF 4) (cF (.int 1))) (con (varF 4) (con (una negG (cF (.int 1))) (nil)))))) (callF 2 m_law_draw (con (varF 1) (con (cF (.int 4)) (nil))))))
    (seqS (setS 13 (cF (.str [110, 117, 109, 98, 101, 114])))
    (seqS (ifS (andT (tst (callF 3 m_law_within (con (varF 11) (con (una negG (cF (.int 1))) (con (bin subG (varF 4) (cF (.int 1))) (nil)))))) (tst (callF 3 m_law_within (con (varF 12) (con (varF 11) (con (bin subG (varF 4) (cF (.int 1))) (nil))))))) (setS 13 (meB' isStr cntG (slF slG (varF 3) (parF (bin addG (varF 11) (cF (.int 1)))) (parF (bin addG (varF 12) (cF (.int 1))))) (con (cF (.str [119])) (nil)))) (passS))
    (ifS (notT (tst (callF 2 m_law_like (con (callF 3 m_law_between (con (varF 5) (con (varF 11) (con (varF 12) (nil))))) (con (varF 13) (nil)))))) (retS (cF (.bl false))) (passS))))))))))))
noncomputable def l_law_k15_2 : SF :=
    seqS (setS 3 (callF 2 m_law_row (con (varF 1) (con (bin addG (cF (.int 1)) (callF 2 m_law_draw (con (varF 1) (con (cF (.int 31)) (nil))))) (nil)))))
    (seqS (parS 4 5 (con (fnB lenG (con (varF 3) (nil))) (con (makeF 1 2 m_DaysD__initD_ (con (varF 3) (nil))) (nil))))
    (forS (rng1F (con (cF (.int 6)) (nil))) (nameG 6) (l_law_k15_1)))
noncomputable def b_law_k15 : SF :=
    seqS (setS 1 (ownE (con (fnB listF (con (varF 0) (nil))) (con (cF (.int 0)) (con (cF (.int 0)) (nil))))))
    (seqS (forS (rng1F (con (cF (.int 8)) (nil))) (nameG 2) (l_law_k15_2))
    (retS (cF (.bl true))))
noncomputable def m_law_k15 : FF := fnF N_law_k15 1 b_law_k15
/-! _law_ends_right -/
def N_law_ends_right : List Str := ["tape", "row", "known", "promises", "many", "start", "count", "ends", "due", "total", "end", "sure"]
noncomputable def l_law_ends_right_1 : SF :=
    setS 9 (bin addG (varF 9) (callF 2 m_count_rows (con (varF 2) (con (bin addG (varF 3) (tupE (con (tupE (con (cF (.str [111, 110])) (con (varF 5) (con (varF 6) (con (varF 10) (nil)))))) (nil)))) (nil)))))
noncomputable def b_law_ends_right : SF :=
    seqS (parS 5 6 (con (bin subG (callF 2 m_law_draw (con (varF 0) (con (fnB lenG (con (varF 1) (nil))) (nil)))) (cF (.int 1))) (con (bin addG (cF (.int 1)) (callF 2 m_law_draw (con (varF 0) (con (fnB minG (con (cF (.int 4)) (con (fnB lenG (con (varF 1) (nil))) (nil)))) (nil))))) (nil))))
    (seqS (setS 7 (callF 4 m_possible_ends (con (varF 2) (con (varF 3) (con (varF 5) (con (varF 6) (nil)))))))
    (seqS (setS 8 (callF 3 m_law_due (con (varF 1) (con (varF 5) (con (varF 6) (nil))))))
    (seqS (ifS (andT (tst (bin ltG (varF 8) (fnB lenG (con (varF 1) (nil))))) (tst (bin ninG (varF 8) (varF 7)))) (retS (cF (.bl false))) (passS))
    (seqS (setS 9 (cF (.int 0)))
    (seqS (forS (walkF (varF 7)) (nameG 10) (l_law_ends_right_1))
    (seqS (setS 11 (callF 3 m_follows (con (varF 2) (con (varF 3) (con (tupE (con (cF (.str [98, 121])) (con (varF 5) (con (varF 6) (con (bin subG (fnB lenG (con (varF 1) (nil))) (cF (.int 1))) (nil)))))) (nil))))))
    (retS (andE (chain leG leG (cF (.int 0)) (varF 9) (varF 4)) (bin eqG (varF 11) (bin eqG (varF 9) (varF 4)))))))))))
noncomputable def m_law_ends_right : FF := fnF N_law_ends_right 5 b_law_ends_right
/-! law -/
def N_law_k19 : List Str := ["script", "tape", "turn", "row", "known", "promises", "states", "many", "low", "high", "own", "day", "count_so", "index", "few", "most", "week"]
noncomputable def l_law_k19_1 : SF :=
    seqS (setS 12 (meB' isStr cntG (slF slG (varF 10) noP (parF (bin addG (varF 11) (cF (.int 1))))) (con (cF (.str [119])) (nil))))
    (ifS (notT (tst (chain leG leG (meB' isStr cntG (slF slG (varF 8) noP (parF (bin addG (varF 11) (cF (.int 1))))) (con (cF (.str [119])) (nil))) (varF 12) (meB' isStr cntG (slF slG (varF 9) noP (parF (bin addG (varF 11) (cF (.int 1))))) (con (cF (.str [119])) (nil)))))) (retS (cF (.bl false))) (passS))
noncomputable def l_law_k19_2 : SF :=
    ifS (tst (bin neG (callF 2 m_count_rows (con (varF 4) (con (bin addG (slF slG (varF 5) noP (parF (varF 13))) (slF slG (varF 5) (parF (bin addG (varF 13) (cF (.int 1)))) noP)) (nil)))) (varF 7))) (retS (cF (.bl false))) (passS)
noncomputable def l_law_k19_3 : SF :=
    seqS (setS 3 (callF 2 m_law_row (con (varF 1) (con (bin addG (cF (.int 4)) (callF 2 m_law_draw (con (varF 1) (con (cF (.int 11)) (nil))))) (nil)))))
    (seqS (setS 4 (callF 2 m_law_masked (con (varF 1) (con (varF 3) (nil)))))
    (seqS (setS 5 (fnB tupleG (con (compF (walkF (callF 3 m_law_promises (con (varF 1) (con (varF 3) (con (cF (.int 4)) (nil)))))) [10] (nameG 10) (tst (callF 2 m_law_keeps (con (varF 3) (con (varF 10) (nil))))) (varF 10)) (nil))))
    (seqS (setS 6 (callF 2 m_day_states (con (varF 4) (con (varF 5) (nil)))))
    (seqS (setS 7 (callF 2 m_count_rows (con (varF 4) (con (varF 5) (nil)))))
    (seqS (ifS (orT (tst (bin neG (callF 2 m_count_rows (con (varF 6) (con (varF 5) (nil)))) (varF 7))) (tst (bin neG (callF 2 m_day_states (con (varF 6) (con (varF 5) (nil)))) (varF 6)))) (retS (cF (.bl false))) (passS))
    (seqS (parS 8 9 (con (callF 2 m_least_row (con (varF 4) (con (varF 5) (nil)))) (con (callF 2 m_greatest_row (con (varF 4) (con (varF 5) (nil)))) (nil))))
    (seqS (ifS (orT (tst (bin neG (bin eqG (varF 7) (cF (.int 1))) (bin eqG (varF 8) (varF 9)))) (tst (bin neG (bin eqG (varF 7) (cF (.int 1))) (bin ninG (cF (.str [63])) (varF 6))))) (retS (cF (.bl false))) (passS))
    (seqS (setS 10 (callF 3 m_row_at (con (varF 4) (con (varF 5) (con (callF 2 m_law_draw (con (varF 1) (con (varF 7) (nil)))) (nil))))))
    (seqS (forS (rng1F (con (fnB lenG (con (varF 3) (nil))) (nil))) (nameG 11) (l_law_k19_1))
    (seqS (forOS (callF 2 m_needless (con (varF 4) (con (varF 5) (nil)))) (nameG 13) (l_law_k19_2))
    (seqS (parS 14 15 (con (callF 2 m_fewest_working (con (varF 4) (con (varF 5) (nil)))) (con (callF 2 m_most_working (con (varF 4) (con (varF 5) (nil)))) (nil))))
    (seqS (ifS (tst (bin neG (callF 4 m_number_range (con (varF 4) (con (varF 5) (con (cF (.int 0)) (con (bin subG (fnB lenG (con (varF 3) (nil))) (cF (.int 1))) (nil)))))) (tupE (con (varF 14) (con (varF 15) (nil)))))) (retS (cF (.bl false))) (passS))
    (seqS (ifS (notT (tst (callF 5 m_law_ends_right (con (varF 1) (con (varF 3) (con (varF 4) (con (varF 5) (con (varF 7) (nil))))))))) (retS (cF (.bl false))) (passS))
    (seqS (setS 16 (callF 2 m_law_row (con (varF 1) (con (cF (.int 7)) (nil)))))
    (ifS (tst (bin neG (callF 3 m_fewest_exceptions (con (varF 4) (con (varF 5) (con (varF 16) (nil))))) (callF 3 m_fewest_exceptions (con (varF 6) (con (varF 5) (con (varF 16) (nil))))))) (retS (cF (.bl false))) (passS))))))))))))))))
noncomputable def b_law_k19 : SF :=
    seqS (setS 1 (ownE (con (fnB listF (con (varF 0) (nil))) (con (cF (.int 0)) (con (cF (.int 0)) (nil))))))
    (seqS (forS (rng1F (con (cF (.int 3)) (nil))) (nameG 2) (l_law_k19_3))
    (retS (cF (.bl true))))
noncomputable def m_law_k19 : FF := fnF N_law_k19 1 b_law_k19
end Fl
set_option Elab.async false
set_option linter.all false
set_option maxRecDepth 100000
set_option maxHeartbeats 1000000
namespace Fl
open L2
/-! ### the tape -/
structure Tp where
  ns : List Int
  i : Int
  c : Int
def Tp.o (p : Tp) : SO := .lst [.lst (p.ns.map .int), .int p.i, .int p.c]
structure Tp.ok (p : Tp) : Prop where
  i0 : 0 ≤ p.i
  c0 : 0 ≤ p.c
theorem big_of {i : Int} (h : -(2 ^ 64) < i) (h2 : i < 2 ^ 64) : big i = true := by
  simp only [big, Bool.and_eq_true, decide_eq_true_eq]; exact ⟨h, h2⟩
def mix1 (x i : Int) : Int := (x + 1000003 * i) % 2305843009213693951
def mix2 (y : Int) : Int := (y * y + 1181783497276652981 * y + 2049848353892358983) % 2305843009213693951
def mix (x i : Int) : Int := (mix2 (mix1 x i) * mix2 (mix1 x i) + 1442695040888963407) % 2305843009213693951
theorem draw_spec {t : Nat} {s : Sto} {p : Tp} {many : Int} (hs : s[t]? = some p.o) (hp : p.ok) (h1 : 1 ≤ many) (h2 : many < 2 ^ 64) :
    ∃ v p', m_law_draw [.ob t, .int many] s = .val (.int v) (s.set t (Tp.o p')) ∧ p'.ok ∧ 0 ≤ v ∧ v < many := by
  obtain ⟨ns, i, c⟩ := p
  obtain ⟨i0, c0⟩ := hp
  simp only at i0 c0
  have ht : t < s.length := (List.getElem?_eq_some_iff.mp hs).1
  have hset : ∀ o : SO, (s.set t o)[t]? = some o := fun o => List.getElem?_set_self ht
  have hs' : s[t]? = some (.lst [.lst (ns.map .int), .int i, .int c]) := hs
  by_cases hc : c < many
  · have key : ∀ c1 : Int, 0 ≤ c1 → m_law_draw [.ob t, .int many] s = .val (.int (c1 % many)) (s.set t (Tp.o ⟨ns, i + 1, c1 / many⟩)) → ∃ v p', m_law_draw [.ob t, .int many] s = .val (.int v) (s.set t (Tp.o p')) ∧ p'.ok ∧ 0 ≤ v ∧ v < many :=
      fun c1 hc1 e => ⟨c1 % many, ⟨ns, i + 1, c1 / many⟩, e, ⟨by show 0 ≤ i + 1; omega, Int.ediv_nonneg hc1 (by omega)⟩, Int.emod_nonneg _ (by omega), Int.emod_lt_of_pos _ (by omega)⟩
    have pp : (0 : Int) < 2305843009213693951 := by decide
    have bm : ∀ x : Int, big (x % 2305843009213693951) = true := fun x => big_of (by have := Int.emod_nonneg x (Int.ne_of_gt pp); omega) (by have := Int.emod_lt_of_pos x pp; omega)
    have b1 : big 1000003 = true := by decide
    have b2 : big 1181783497276652981 = true := by decide
    have go : ∀ x : Int, (m_law_draw [.ob t, .int many] s = .val (.int (mix x i % many)) (s.set t (Tp.o ⟨ns, i + 1, mix x i / many⟩)) ∨ (1000000000000000000 ≤ x ∧ m_law_draw [.ob t, .int many] s = .val (.int (x % many)) (s.set t (Tp.o ⟨ns, i + 1, x / many⟩)))) → ∃ v p', m_law_draw [.ob t, .int many] s = .val (.int v) (s.set t (Tp.o p')) ∧ p'.ok ∧ 0 ≤ v ∧ v < many := fun x h => by
      rcases h with h | ⟨h0, h⟩
      · exact key _ (Int.emod_nonneg _ (by decide)) h
      · exact key x (by omega) h
    by_cases hn : ns = []
    · subst hn
      refine go 0 (.inl ?_)
      simp -implicitDefEqProofs [mix, mix1, mix2, m_law_draw, fnF, b_law_draw, N_law_draw, startD, hc, hs', modG_int (show 0 < many by omega), divG_int (show 0 < many by omega) h2, Tp.o, modG_int pp, mulG_l b1, mulG_l b2, mulG_l (bm _), hset]
    · have hl0 : 0 < ns.length := List.length_pos_iff.mpr hn
      have hl : (0 : Int) < (ns.length : Int) := by omega
      obtain ⟨x, hx⟩ : ∃ x, atI (ns.map D.int) (i % (ns.length : Int)) = some (.int x) := by
        have h3 := Int.emod_nonneg i (Int.ne_of_gt hl)
        have h4 := Int.emod_lt_of_pos i hl
        obtain ⟨k, hk⟩ := Int.eq_ofNat_of_zero_le h3
        have hk2 : k < ns.length := by omega
        refine ⟨ns[k], ?_⟩
        rw [hk]
        exact atI_nat (by rw [List.getElem?_map, List.getElem?_eq_getElem hk2]; rfl)
      refine go x ?_
      by_cases hq : (ns.length : Int) ≤ i
      · refine .inl ?_
        simp -implicitDefEqProofs [mix, mix1, mix2, m_law_draw, fnF, b_law_draw, N_law_draw, startD, hc, hs', modG_int (show 0 < many by omega), divG_int (show 0 < many by omega) h2, Tp.o, modG_int pp, mulG_l b1, mulG_l b2, mulG_l (bm _), hset, modG_int hl, ixG_lst hx, hl0, hq]
      · by_cases hr : x < 1000000000000000000
        · refine .inl ?_
          simp -implicitDefEqProofs [mix, mix1, mix2, m_law_draw, fnF, b_law_draw, N_law_draw, startD, hc, hs', modG_int (show 0 < many by omega), divG_int (show 0 < many by omega) h2, Tp.o, modG_int pp, mulG_l b1, mulG_l b2, mulG_l (bm _), hset, modG_int hl, ixG_lst hx, hl0, hq, hr]
        · refine .inr ⟨by omega, ?_⟩
          simp -implicitDefEqProofs [mix, mix1, mix2, m_law_draw, fnF, b_law_draw, N_law_draw, startD, hc, hs', modG_int (show 0 < many by omega), divG_int (show 0 < many by omega) h2, Tp.o, modG_int pp, mulG_l b1, mulG_l b2, mulG_l (bm _), hset, modG_int hl, ixG_lst hx, hl0, hq, hr]
  · refine ⟨c % many, ⟨ns, i, c / many⟩, ?_, ⟨i0, Int.ediv_nonneg c0 (by omega)⟩, Int.emod_nonneg _ (by omega), Int.emod_lt_of_pos _ (by omega)⟩
    simp -implicitDefEqProofs [m_law_draw, fnF, b_law_draw, N_law_draw, startD, hc, hs', modG_int (show 0 < many by omega), divG_int (show 0 < many by omega) h2, Tp.o]
/-- there is a tape at t | only the tape at t has turned -/
def Tap (t : Nat) (s : Sto) : Prop := ∃ p : Tp, p.ok ∧ s[t]? = some p.o
def Dr (t : Nat) (s s' : Sto) : Prop := ∃ p : Tp, p.ok ∧ s' = s.set t p.o
theorem Tap.refl {t : Nat} {s : Sto} (h : Tap t s) : Dr t s s := by
  obtain ⟨p, ok, e⟩ := h
  refine ⟨p, ok, ?_⟩
  obtain ⟨h1, h2⟩ := List.getElem?_eq_some_iff.mp e
  rw [← h2]; simp
theorem Tap.dr {t : Nat} {s s' : Sto} (h : Tap t s) (d : Dr t s s') : Tap t s' := by
  obtain ⟨p, ok, e⟩ := h
  obtain ⟨q, ok', rfl⟩ := d
  exact ⟨q, ok', List.getElem?_set_self (List.getElem?_eq_some_iff.mp e).1⟩
theorem Dr.trans {t : Nat} {s s1 s2 : Sto} (a : Dr t s s1) (b : Dr t s1 s2) : Dr t s s2 := by
  obtain ⟨p, ok, rfl⟩ := a
  obtain ⟨q, ok', rfl⟩ := b
  exact ⟨q, ok', by simp⟩
theorem Dr.len {t : Nat} {s s' : Sto} (a : Dr t s s') : s'.length = s.length := by
  obtain ⟨p, ok, rfl⟩ := a; simp
theorem Dr.take {t : Nat} {s s' : Sto} (a : Dr t s s') : s'.take s.length = s' := List.take_of_length_le (by rw [a.len]; exact Nat.le_refl _)
theorem Dr.chk {t : Nat} {s s' : Sto} (a : Dr t s s') : Chk s s' := by
  obtain ⟨p, ok, rfl⟩ := a
  exact Chk.set (by simp [Tp.o])
theorem Dr.get {t j : Nat} {s s' : Sto} (a : Dr t s s') (h : j ≠ t) : s'[j]? = s[j]? := by
  obtain ⟨p, ok, rfl⟩ := a
  rw [List.getElem?_set_ne (Ne.symm h)]
theorem draw {t : Nat} {s : Sto} {many : Int} (h : Tap t s) (h1 : 1 ≤ many) (h2 : many < 2 ^ 64) :
    ∃ v s', m_law_draw [.ob t, .int many] s = .val (.int v) s' ∧ Dr t s s' ∧ 0 ≤ v ∧ v < many := by
  obtain ⟨p, ok, e⟩ := h
  obtain ⟨v, p', h3, h4, h5, h6⟩ := draw_spec e ok h1 h2
  exact ⟨v, _, h3, ⟨p', h4, rfl⟩, h5, h6⟩
/-! ### loops -/
/-- one turn -/
def turn (g : GF) (body : SF) (x : D) (δ : Sl) (s : Sto) : OS := (noX (g x δ s)).go δ body
theorem loopS_cons {g : GF} {body : SF} {x : D} {xs : List D} {δ δ2 : Sl} {s s2 : Sto} (h : turn g body x δ s = .nx δ2 s2) : loopS g body (x :: xs) δ s = loopS g body xs δ2 s2 := by
  rw [loopS]
  unfold turn at h
  cases e : noX (g x δ s) with
  | stuck => rw [e] at h; cases h
  | exc c s' => rw [e] at h; cases h
  | val δ1 s1 =>
    rw [e, O.go_val] at h
    rw [O.go_val, h]
theorem loopS_rt {g : GF} {body : SF} {x d : D} {xs : List D} {δ : Sl} {s s2 : Sto} (h : turn g body x δ s = .rt d s2) : loopS g body (x :: xs) δ s = .rt d s2 := by
  rw [loopS]
  unfold turn at h
  cases e : noX (g x δ s) with
  | stuck => rw [e] at h; cases h
  | exc c s' => rw [e] at h; cases h
  | val δ1 s1 =>
    rw [e, O.go_val] at h
    rw [O.go_val, h]
@[simp] theorem loopS_nil {g : GF} {body : SF} {δ : Sl} {s : Sto} : loopS g body [] δ s = .nx δ s := rfl
theorem loop_inv {g : GF} {body : SF} {xs : List D} (I : Nat → Sl → Sto → Prop) (step : ∀ i x δ s, xs[i]? = some x → I i δ s → ∃ δ2 s2, turn g body x δ s = .nx δ2 s2 ∧ I (i + 1) δ2 s2) {δ : Sl} {s : Sto} (h : I 0 δ s) :
    ∃ δ' s', loopS g body xs δ s = .nx δ' s' ∧ I xs.length δ' s' := by
  have main : ∀ (ys : List D) (i : Nat) (δ : Sl) (s : Sto), i + ys.length = xs.length → (∀ j : Nat, ys[j]? = xs[i + j]?) → I i δ s → ∃ δ' s', loopS g body ys δ s = .nx δ' s' ∧ I xs.length δ' s' := by
    intro ys
    induction ys with
    | nil =>
      intro i δ s hl _ h
      have : i = xs.length := by simpa using hl
      subst this
      exact ⟨δ, s, rfl, h⟩
    | cons y ys ih =>
      intro i δ s hl hg h
      have h0 := hg 0
      simp at h0
      obtain ⟨δ2, s2, e2, h2⟩ := step i y δ s h0.symm h
      obtain ⟨δ', s', e3, h3⟩ := ih (i + 1) δ2 s2 (by simp at hl; omega) (fun j => by have := hg (j + 1); simp at this; rw [this]; congr 1; omega) h2
      exact ⟨δ', s', by rw [loopS_cons e2]; exact e3, h3⟩
  exact main xs 0 δ s (by simp) (fun j => by simp) h
theorem upI_get {lo : Int} {n i : Nat} {x : D} (h : (upI lo n)[i]? = some x) : x = .int (lo + (i : Int)) ∧ i < n := by
  unfold upI at h
  rw [List.getElem?_map] at h
  obtain ⟨j, h1, rfl⟩ := Option.map_eq_some_iff.mp h
  have hi : i < n := by have := (List.getElem?_eq_some_iff.mp h1).1; simpa using this
  rw [List.getElem?_range hi] at h1
  cases h1
  exact ⟨rfl, hi⟩
@[simp] theorem upI_len {lo : Int} {n : Nat} : (upI lo n).length = n := by simp [upI]
theorem loopC_pure {g : GF} {t : BF} {e : EF} {δ : Sl} {s : Sto} (p : D → Bool) (v : D → D) : ∀ (xs acc : List D), (∀ x ∈ xs, ∃ δ1, g x δ s = .val δ1 s ∧ t δ1 s = .val (p x) s ∧ (p x = true → e δ1 s = .val (v x) s ∧ flat (v x) = true)) → acc.length + xs.length ≤ 16000000 →
    loopC g t e δ xs acc s = .val (acc ++ (xs.filter p).map v) s
  | [], acc, _, _ => by simp
  | x :: xs, acc, h, hl => by
    obtain ⟨δ1, h1, h2, h3⟩ := h x (by simp)
    have ih := fun acc' hl' => loopC_pure p v xs acc' (fun y hy => h y (by simp [hy])) hl'
    simp only [List.length_cons] at hl
    rw [loopC_cons, h1, noX_val, O.bind_val, h2, quiet_val, O.bind_val]
    cases hp : p x with
    | false =>
      rw [if_neg (by decide), ih _ (by omega)]
      simp [hp]
    | true =>
      obtain ⟨h4, h5⟩ := h3 hp
      rw [if_pos rfl, h4, quiet_val, O.bind_val, if_pos ⟨h5, by omega⟩, ih _ (by simp; omega)]
      simp [hp]
/-! ### rows -/
def Row (r : List Nat) : Prop := ∀ c ∈ r, c = 119 ∨ c = 102
theorem sm_of {i : Int} (h : -(2 ^ 60) ≤ i) (h2 : i < 2 ^ 60) : sm i = true := by
  simp only [sm, Bool.and_eq_true, decide_eq_true_eq]; exact ⟨h, h2⟩
theorem row_spec {t : Nat} {s : Sto} {n : Int} (h : Tap t s) (h0 : 0 ≤ n) (h1 : n ≤ 1000) :
    ∃ r s', m_law_row [.ob t, .int n] s = .val (.str r) s' ∧ Dr t s s' ∧ (r.length : Int) = n ∧ Row r := by
  obtain ⟨v, s1, e1, d1, v0, v3⟩ := draw h (show (1 : Int) ≤ 3 by decide) (by decide)
  obtain ⟨m, hm, m0, m5⟩ : ∃ m : Int, atI ([.int 1, .int 2, .int 5] : List D) v = some (.int m) ∧ 1 ≤ m ∧ m ≤ 5 := by
    rcases (by omega : v = 0 ∨ v = 1 ∨ v = 2) with rfl | rfl | rfl
    · exact ⟨1, by simp, by decide, by decide⟩
    · exact ⟨2, by simp, by decide, by decide⟩
    · exact ⟨5, by simp, by decide, by decide⟩
  have T1 := h.dr d1
  obtain ⟨δ', s', e2, f, o, rfl, d2, hl, hr⟩ := loop_inv (g := nameG 4) (body := l_law_row_1) (xs := upI 0 n.toNat)
    (fun i δ s' => ∃ f o, δ = [some (.ob t), some (.int n), some (.int m), some (.str f), o] ∧ Dr t s1 s' ∧ f.length = i ∧ Row f)
    (fun i x δ s' hx hI => by
      obtain ⟨f, o, rfl, d, hl, hr⟩ := hI
      obtain ⟨rfl, hi⟩ := upI_get hx
      obtain ⟨u, s2, e, d', u0, u1⟩ := draw (many := m + 1) (T1.dr d) (by omega) (by omega)
      have hb : f.length + 1 ≤ 16000000 := by omega
      by_cases hu : u = 0
      · refine ⟨_, s2, ?_, f ++ [102], some (.int (0 + (i : Int))), rfl, d.trans d', by simp [hl], fun c hc => by rcases List.mem_append.mp hc with q | q; exact hr c q; simp at q; exact .inr q⟩
        simp -implicitDefEqProofs [turn, l_law_row_1, e, hu, addG_str, hb, ixG_str]
      · refine ⟨_, s2, ?_, f ++ [119], some (.int (0 + (i : Int))), rfl, d.trans d', by simp [hl], fun c hc => by rcases List.mem_append.mp hc with q | q; exact hr c q; simp at q; exact .inl q⟩
        simp -implicitDefEqProofs [turn, l_law_row_1, e, hu, addG_str, hb, ixG_str])
    (δ := [some (.ob t), some (.int n), some (.int m), some (.str []), none]) (s := s1) ⟨[], none, rfl, T1.refl, rfl, fun c hc => by simp at hc⟩
  refine ⟨f, s', ?_, d1.trans d2, by simp at hl; omega, hr⟩
  simp -implicitDefEqProofs [m_law_row, fnF, b_law_row, N_law_row, startD, e1, ixG_lst hm, sm_of (show -(2 ^ 60) ≤ n by omega) (by omega), e2, (d1.trans d2).take, (d1.trans d2).chk]
end Fl
set_option Elab.async false
set_option linter.all false
set_option maxRecDepth 100000
set_option maxHeartbeats 1000000
namespace Fl
open L2
/-! ### isinstance -/
def isTab (t T : String) : Bool := t == T || (t == "bool" && T == "int")
theorem kitB_tab : (["NoneType", "bool", "int", "str", "tuple", "list"].all fun t => ["bool", "int", "str", "tuple", "list"].all fun T => decide (kitB t T = some (isTab t T))) = true := by decide +kernel
theorem kitB_of {t T : String} (h1 : t ∈ ["NoneType", "bool", "int", "str", "tuple", "list"]) (h2 : T ∈ ["bool", "int", "str", "tuple", "list"]) : kitB t T = some (isTab t T) :=
  of_decide_eq_true (List.all_eq_true.mp (List.all_eq_true.mp kitB_tab t h1) T h2)
@[simp] theorem kitB_non_bool : kitB "NoneType" "bool" = some false := kitB_of (by simp) (by simp)
@[simp] theorem kitB_non_int : kitB "NoneType" "int" = some false := kitB_of (by simp) (by simp)
@[simp] theorem kitB_non_str : kitB "NoneType" "str" = some false := kitB_of (by simp) (by simp)
@[simp] theorem kitB_non_tup : kitB "NoneType" "tuple" = some false := kitB_of (by simp) (by simp)
@[simp] theorem kitB_non_lst : kitB "NoneType" "list" = some false := kitB_of (by simp) (by simp)
@[simp] theorem kitB_bool_bool : kitB "bool" "bool" = some true := kitB_of (by simp) (by simp)
@[simp] theorem kitB_bool_int : kitB "bool" "int" = some true := kitB_of (by simp) (by simp)
@[simp] theorem kitB_bool_str : kitB "bool" "str" = some false := kitB_of (by simp) (by simp)
@[simp] theorem kitB_bool_tup : kitB "bool" "tuple" = some false := kitB_of (by simp) (by simp)
@[simp] theorem kitB_bool_lst : kitB "bool" "list" = some false := kitB_of (by simp) (by simp)
@[simp] theorem kitB_int_bool : kitB "int" "bool" = some false := kitB_of (by simp) (by simp)
@[simp] theorem kitB_int_int : kitB "int" "int" = some true := kitB_of (by simp) (by simp)
@[simp] theorem kitB_int_str : kitB "int" "str" = some false := kitB_of (by simp) (by simp)
@[simp] theorem kitB_int_tup : kitB "int" "tuple" = some false := kitB_of (by simp) (by simp)
@[simp] theorem kitB_int_lst : kitB "int" "list" = some false := kitB_of (by simp) (by simp)
@[simp] theorem kitB_str_bool : kitB "str" "bool" = some false := kitB_of (by simp) (by simp)
@[simp] theorem kitB_str_int : kitB "str" "int" = some false := kitB_of (by simp) (by simp)
@[simp] theorem kitB_str_str : kitB "str" "str" = some true := kitB_of (by simp) (by simp)
@[simp] theorem kitB_str_tup : kitB "str" "tuple" = some false := kitB_of (by simp) (by simp)
@[simp] theorem kitB_str_lst : kitB "str" "list" = some false := kitB_of (by simp) (by simp)
@[simp] theorem kitB_tup_bool : kitB "tuple" "bool" = some false := kitB_of (by simp) (by simp)
@[simp] theorem kitB_tup_int : kitB "tuple" "int" = some false := kitB_of (by simp) (by simp)
@[simp] theorem kitB_tup_str : kitB "tuple" "str" = some false := kitB_of (by simp) (by simp)
@[simp] theorem kitB_tup_tup : kitB "tuple" "tuple" = some true := kitB_of (by simp) (by simp)
@[simp] theorem kitB_tup_lst : kitB "tuple" "list" = some false := kitB_of (by simp) (by simp)
@[simp] theorem kitB_lst_bool : kitB "list" "bool" = some false := kitB_of (by simp) (by simp)
@[simp] theorem kitB_lst_int : kitB "list" "int" = some false := kitB_of (by simp) (by simp)
@[simp] theorem kitB_lst_str : kitB "list" "str" = some false := kitB_of (by simp) (by simp)
@[simp] theorem kitB_lst_tup : kitB "list" "tuple" = some false := kitB_of (by simp) (by simp)
@[simp] theorem kitB_lst_lst : kitB "list" "list" = some true := kitB_of (by simp) (by simp)
@[simp] theorem isiG_one {s : Sto} {x : D} {T : String} : isiG s [x, .ty T] = (match isT (view s x) T with
    | some b => .val (.bl b) s
    | none => .stuck) := rfl
@[simp] theorem isiG_two {s : Sto} {x : D} {T U : String} : isiG s [x, .tup [.ty T, .ty U]] = (match isT (view s x) T with
    | some true => .val (.bl true) s
    | some false => (match isT (view s x) U with
      | some b => .val (.bl b) s
      | none => .stuck)
    | none => .stuck) := rfl
/-! ### like -/
/-- what == and isinstance are asked of -/
def plain : D → Bool
  | .ty _ => false
  | .ob _ => false
  | .scr _ => false
  | _ => true
mutual
def plainD : D → Bool
  | .tup ds => plainDs ds
  | .lst ds => plainDs ds
  | .ty _ => false
  | .ob _ => false
  | .scr _ => false
  | _ => true
def plainDs : List D → Bool
  | [] => true
  | d :: ds => plainD d && plainDs ds
end
mutual
theorem deq_refl : ∀ d : D, plainD d = true → deq d d = true
  | .non, _ => by simp
  | .bl _, _ => by simp
  | .int _, _ => by simp
  | .str _, _ => by simp
  | .tup ds, h => by rw [deq_tup]; exact deqs_refl ds (by rw [plainD] at h; exact h)
  | .lst ds, h => by rw [deq_lst]; exact deqs_refl ds (by rw [plainD] at h; exact h)
  | .scr _, h => by rw [plainD] at h; cases h
  | .ty _, h => by rw [plainD] at h; cases h
  | .ob _, h => by rw [plainD] at h; cases h
theorem deqs_refl : ∀ ds : List D, plainDs ds = true → deqs ds ds = true
  | [], _ => by simp
  | d :: ds, h => by
    rw [plainDs, Bool.and_eq_true] at h
    rw [deqs_cons, deq_refl d h.1, deqs_refl ds h.2]; rfl
end
mutual
/-- no bool within: == is equality -/
def noBl : D → Bool
  | .tup ds => noBls ds
  | .lst ds => noBls ds
  | .int _ => true
  | .str _ => true
  | .non => true
  | _ => false
def noBls : List D → Bool
  | [] => true
  | d :: ds => noBl d && noBls ds
end
mutual
theorem deq_iff : ∀ x y : D, noBl x = true → noBl y = true → (deq x y = true ↔ x = y)
  | .non, y, _, hy => by cases y <;> simp_all [deq, toPy, PySem.PyData.eqv, noBl]
  | .int i, y, _, hy => by cases y <;> simp_all [deq, toPy, PySem.PyData.eqv, noBl]
  | .str a, y, _, hy => by
    cases y with
    | str b => rw [deq_str]; simp
    | _ => simp_all [deq, toPy, PySem.PyData.eqv, noBl]
  | .tup xs, y, hx, hy => by
    cases y with
    | tup ys =>
      rw [noBl] at hx hy
      rw [deq_tup, deqs_iff xs ys hx hy]; simp
    | _ => simp_all [deq, toPy, PySem.PyData.eqv, noBl]
  | .lst xs, y, hx, hy => by
    cases y with
    | lst ys =>
      rw [noBl] at hx hy
      rw [deq_lst, deqs_iff xs ys hx hy]; simp
    | _ => simp_all [deq, toPy, PySem.PyData.eqv, noBl]
  | .bl _, _, h, _ => by rw [noBl] at h <;> first | cases h | (intros; contradiction)
  | .scr _, _, h, _ => by rw [noBl] at h <;> first | cases h | (intros; contradiction)
  | .ty _, _, h, _ => by rw [noBl] at h <;> first | cases h | (intros; contradiction)
  | .ob _, _, h, _ => by rw [noBl] at h <;> first | cases h | (intros; contradiction)
theorem deqs_iff : ∀ xs ys : List D, noBls xs = true → noBls ys = true → (deqs xs ys = true ↔ xs = ys)
  | [], [], _, _ => by simp
  | [], y :: ys, _, _ => by simp
  | x :: xs, [], _, _ => by simp
  | x :: xs, y :: ys, hx, hy => by
    rw [noBls, Bool.and_eq_true] at hx hy
    rw [deqs_cons, Bool.and_eq_true, deq_iff x y hx.1 hy.1, deqs_iff xs ys hx.2 hy.2]; simp
end
theorem dep_le_of_mem {d : D} {ds : List D} (h : d ∈ ds) : dep d ≤ deps ds := by
  induction ds with
  | nil => simp at h
  | cons x xs ih =>
    rw [deps_cons]
    rcases List.mem_cons.mp h with rfl | h
    · exact Nat.le_max_left _ _
    · exact Nat.le_trans (ih h) (Nat.le_max_right _ _)
theorem plain_of_mem {d : D} {ds : List D} (h : d ∈ ds) (p : plainDs ds = true) : plainD d = true := by
  induction ds with
  | nil => simp at h
  | cons x xs ih =>
    rw [plainDs, Bool.and_eq_true] at p
    rcases List.mem_cons.mp h with rfl | h
    · exact p.1
    · exact ih h p.2
theorem plain_flat {d : D} (h : plainD d = true) : flat d = true := by cases d <;> first | rfl | (rw [plainD] at h; cases h)
mutual
/-- data that _law_like walks through -/
def okD : D → Bool
  | .tup ds => decide (ds.length ≤ 1000000) && okDs ds
  | .lst ds => decide (ds.length ≤ 1000000) && okDs ds
  | .ty _ => false
  | .ob _ => false
  | .scr _ => false
  | _ => true
def okDs : List D → Bool
  | [] => true
  | d :: ds => okD d && okDs ds
end
theorem okDs_mem {d : D} {ds : List D} (h : d ∈ ds) (p : okDs ds = true) : okD d = true := by
  induction ds with
  | nil => simp at h
  | cons x xs ih =>
    rw [okDs, Bool.and_eq_true] at p
    rcases List.mem_cons.mp h with rfl | h
    · exact p.1
    · exact ih h p.2
mutual
theorem okD_plain : ∀ d : D, okD d = true → plainD d = true
  | .tup ds, h => by rw [okD, Bool.and_eq_true] at h; rw [plainD]; exact okDs_plain ds h.2
  | .lst ds, h => by rw [okD, Bool.and_eq_true] at h; rw [plainD]; exact okDs_plain ds h.2
  | .non, _ => by simp [plainD]
  | .bl _, _ => by simp [plainD]
  | .int _, _ => by simp [plainD]
  | .str _, _ => by simp [plainD]
  | .ty _, h => by rw [okD] at h; cases h
  | .ob _, h => by rw [okD] at h; cases h
  | .scr _, h => by rw [okD] at h; cases h
theorem okDs_plain : ∀ ds : List D, okDs ds = true → plainDs ds = true
  | [], _ => by simp [plainDs]
  | d :: ds, h => by
    rw [okDs, Bool.and_eq_true] at h
    rw [plainDs, okD_plain d h.1, okDs_plain ds h.2]; rfl
end
theorem view_flat {s : Sto} {d : D} (h : flat d = true) : view s d = d := by cases d <;> first | rfl | cases h
theorem look_view {s : Sto} {x : D} {d : D} (h : view s x = d) (f : flat d = true) : look s x = d := by
  cases x with
  | ob k =>
    cases e : s[k]? with
    | none => simp only [view, e] at h; subst h; cases f
    | some o =>
      cases o with
      | dead => simp only [view, e] at h; subst h; cases f
      | ins _ _ => simp only [view, e] at h; subst h; cases f
      | dic _ => simp only [view, e] at h; subst h; cases f
      | lst ds =>
        simp only [view, e] at h
        split at h
        · rw [look_ob e]; exact h
        · subst h; cases f
  | _ => exact h
theorem like_seq {k : Nat} {ds : List D} {x y : D} {s : Sto} (hl : ds.length ≤ 1000000) (hx : view s x = .lst ds ∨ view s x = .tup ds) (hy : view s y = view s x)
    (ih : ∀ d ∈ ds, flat d = true ∧ m_law_like_n k [d, d] s = .val (.bl true) s) : m_law_like_n (k + 1) [x, y] s = .val (.bl true) s := by
  have ix : ∀ i : Nat, (h : i < ds.length) → ixG s x (.int (i : Int)) = .val ds[i] s ∧ ixG s y (.int (i : Int)) = .val ds[i] s := by
    intro i h
    have e : atI ds (i : Int) = some ds[i] := atI_nat (List.getElem?_eq_getElem h)
    rcases hx with hx | hx <;> (have q1 := look_view hx rfl; have q2 := look_view (hy.trans hx) rfl; simp only [ixG, q1, q2, e]; exact ⟨trivial, trivial⟩)
  have comp : loopC (nameG 2) (notT (tst (callF 2 (m_law_like_n k) (con (bin ixG (varF 0) (varF 2)) (con (bin ixG (varF 1) (varF 2)) nil))))) (varF 2) [some x, some y, none] (upI 0 ds.length) [] s = .val [] s := by
    rw [loopC_pure (p := fun _ => false) (v := fun d => d)]
    · simp
    · intro z hz
      obtain ⟨i, hi⟩ := List.getElem?_of_mem hz
      obtain ⟨rfl, hi2⟩ := upI_get hi
      obtain ⟨h1, h2⟩ := ix i hi2
      refine ⟨[some x, some y, some (.int (0 + (i : Int)))], rfl, ?_, fun h => by cases h⟩
      have h3 := (ih ds[i] (List.getElem_mem hi2)).2
      simp [h1, h2, h3]
    · simp; omega
  have hs : sm ((ds.length : Nat) : Int) = true := sm_of (by omega) (by omega)
  have hlx : lenG s [x] = .val (.int ds.length) s := by rcases hx with hx | hx <;> simp only [lenG, look_view hx rfl]
  have hly : lenG s [y] = .val (.int ds.length) s := by rcases hx with hx | hx <;> simp only [lenG, look_view (hy.trans hx) rfl]
  rcases hx with hx | hx
  · simp -implicitDefEqProofs [m_law_like_n, fnF, b_law_like, N_law_like, startD, hx, hy, isT, tyD, hlx, hly, hs, wipeD, comp]
  · simp -implicitDefEqProofs [m_law_like_n, fnF, b_law_like, N_law_like, startD, hx, hy, isT, tyD, hlx, hly, hs, wipeD, comp]
theorem like_same : ∀ (k : Nat) (d x y : D) (s : Sto), okD d = true → dep d < k → k ≤ 50 → view s x = d → view s y = d → m_law_like_n k [x, y] s = .val (.bl true) s
  | 0, _, _, _, _, _, h, _, _, _ => by omega
  | k + 1, d, x, y, s, hp, hd, h6, hx, hy => by
    have seq : ∀ ds : List D, ds.length ≤ 1000000 → okDs ds = true → deps ds < k → ∀ e ∈ ds, flat e = true ∧ m_law_like_n k [e, e] s = .val (.bl true) s := fun ds hl h1 h2 e he => by
      have h3 := okDs_mem he h1
      have h4 := plain_flat (okD_plain e h3)
      exact ⟨h4, like_same k e e e s h3 (Nat.lt_of_le_of_lt (dep_le_of_mem he) h2) (by omega) (view_flat h4) (view_flat h4)⟩
    have dq := deq_refl d (okD_plain d hp)
    cases d with
    | lst ds =>
      rw [okD, Bool.and_eq_true, decide_eq_true_eq] at hp
      rw [dep_lst] at hd
      exact like_seq hp.1 (.inl hx) (hy.trans hx.symm) (seq ds hp.1 hp.2 (by omega))
    | tup ds =>
      rw [okD, Bool.and_eq_true, decide_eq_true_eq] at hp
      rw [dep_tup] at hd
      exact like_seq hp.1 (.inr hx) (hy.trans hx.symm) (seq ds hp.1 hp.2 (by omega))
    | non => simp -implicitDefEqProofs [m_law_like_n, fnF, b_law_like, N_law_like, startD, hx, hy, isT, tyD]
    | bl b => simp -implicitDefEqProofs [m_law_like_n, fnF, b_law_like, N_law_like, startD, hx, hy, isT, tyD]
    | int i => simp -implicitDefEqProofs [m_law_like_n, fnF, b_law_like, N_law_like, startD, hx, hy, isT, tyD]
    | str a => simp -implicitDefEqProofs [m_law_like_n, fnF, b_law_like, N_law_like, startD, hx, hy, isT, tyD]
    | ty _ => rw [okD] at hp; cases hp
    | ob _ => rw [okD] at hp; cases hp
    | scr _ => rw [okD] at hp; cases hp
end Fl
set_option Elab.async false
set_option linter.all false
set_option maxRecDepth 100000
set_option maxHeartbeats 1000000
namespace Fl
open L2
/-! ### loops that may end early -/
theorem loop_ret {g : GF} {body : SF} {xs : List D} (I : Nat → Sl → Sto → Prop) (R : D → Sto → Prop) (step : ∀ i x δ s, xs[i]? = some x → I i δ s → (∃ δ2 s2, turn g body x δ s = .nx δ2 s2 ∧ I (i + 1) δ2 s2) ∨ ∃ d s2, turn g body x δ s = .rt d s2 ∧ R d s2) {δ : Sl} {s : Sto} (h : I 0 δ s) :
    (∃ δ' s', loopS g body xs δ s = .nx δ' s' ∧ I xs.length δ' s') ∨ ∃ d s', loopS g body xs δ s = .rt d s' ∧ R d s' := by
  have main : ∀ (ys : List D) (i : Nat) (δ : Sl) (s : Sto), i + ys.length = xs.length → (∀ j : Nat, ys[j]? = xs[i + j]?) → I i δ s → (∃ δ' s', loopS g body ys δ s = .nx δ' s' ∧ I xs.length δ' s') ∨ ∃ d s', loopS g body ys δ s = .rt d s' ∧ R d s' := by
    intro ys
    induction ys with
    | nil =>
      intro i δ s hl _ h
      have : i = xs.length := by simpa using hl
      subst this
      exact .inl ⟨δ, s, rfl, h⟩
    | cons y ys ih =>
      intro i δ s hl hg h
      have h0 := hg 0
      simp at h0
      rcases step i y δ s h0.symm h with ⟨δ2, s2, e2, h2⟩ | ⟨d, s2, e2, h2⟩
      · rw [loopS_cons e2]
        exact ih (i + 1) δ2 s2 (by simp at hl; omega) (fun j => by have := hg (j + 1); simp at this; rw [this]; congr 1; omega) h2
      · exact .inr ⟨d, s2, loopS_rt e2, h2⟩
  exact main xs 0 δ s (by simp) (fun j => by simp) h
/-! ### due days -/
/-- day i works -/
def wk (r : List Nat) (i : Nat) : Bool := r[i]? == some 119
/-- the working days among the n days from lo -/
def cw (r : List Nat) (lo n : Nat) : Nat := ((List.range n).filter fun i => wk r (lo + i)).length
def wds (r : List Nat) (lo n : Nat) : List Nat := ((List.range n).filter fun i => wk r (lo + i)).map (lo + ·)
def dueR (r : List Nat) (lo c : Nat) : Nat := (wds r lo (r.length - lo))[c]?.getD r.length
theorem cw_succ {r : List Nat} {lo n : Nat} : cw r lo (n + 1) = cw r lo n + if wk r (lo + n) = true then 1 else 0 := by
  unfold cw
  rw [List.range_succ, List.filter_append, List.length_append]
  by_cases h : wk r (lo + n) = true <;> simp [h]
theorem range_split {n i : Nat} (h : i < n) : List.range n = List.range i ++ i :: (List.range (n - i - 1)).map (i + 1 + ·) := by
  obtain ⟨k, rfl⟩ : ∃ k, n = i + (k + 1) := ⟨n - i - 1, by omega⟩
  rw [show i + (k + 1) - i - 1 = k by omega, List.range_add, List.range_succ_eq_map]
  simp [Function.comp_def]; intro a _; omega
theorem wds_len {r : List Nat} {lo n : Nat} : (wds r lo n).length = cw r lo n := by simp [wds, cw]
theorem wds_at {r : List Nat} {lo n i : Nat} (h : i < n) (hw : wk r (lo + i) = true) : (wds r lo n)[cw r lo i]? = some (lo + i) := by
  unfold wds
  rw [range_split h, List.filter_append, List.map_append, List.getElem?_append_right (by simp [cw])]
  simp [cw, hw]
theorem dueR_at {r : List Nat} {lo i c : Nat} (h : lo + i < r.length) (hw : wk r (lo + i) = true) (hc : cw r lo i = c) : dueR r lo c = lo + i := by
  subst hc
  rw [dueR, wds_at (by omega) hw]; rfl
theorem dueR_none {r : List Nat} {lo c : Nat} (hc : cw r lo (r.length - lo) ≤ c) : dueR r lo c = r.length := by
  rw [dueR, List.getElem?_eq_none (by rw [wds_len]; exact hc)]; rfl
theorem row_at {r : List Nat} (hr : Row r) {i : Nat} (h : i < r.length) : ∃ c, r[i]? = some c ∧ (c == 119) = wk r i := by
  refine ⟨r[i], List.getElem?_eq_getElem h, ?_⟩
  rw [wk, List.getElem?_eq_getElem h]; simp
theorem law_due_spec {r : List Nat} {lo c : Nat} {s : Sto} (hl : r.length ≤ 1000) (hr : Row r) (hlo : lo ≤ 1000) :
    m_law_due [.str r, .int ((lo : Int) - 1), .int ((c : Int) + 1)] s = .val (.int (dueR r lo c)) s := by
  have hL : lenG s [.str r] = .val (.int r.length) s := lenG_str (by omega)
  have e : ((r.length : Int) - (lo : Int)).toNat = r.length - lo := by omega
  have e1 : sm (lo : Int) = true := sm_of (by omega) (by omega)
  have e2 : sm (r.length : Int) = true := sm_of (by omega) (by omega)
  have e3 : (lo : Int) - 1 + 1 = lo := by omega
  have e4 : (c : Int) + 1 - 1 = c := by omega
  have comp : ∀ o, loopC (nameG 4) (tst (bin eqG (bin ixG (varF 0) (varF 4)) (cF (.str [119])))) (varF 4) [some (.str r), some (.int ((lo : Int) - 1)), some (.int ((c : Int) + 1)), none, o] (upI lo (r.length - lo)) [] s = .val ((wds r lo (r.length - lo)).map fun (i : Nat) => .int i) s := by
    intro o
    rw [loopC_pure (p := fun d => match d with | .int i => wk r i.toNat | _ => false) (v := fun d => d)]
    · have e6 : ∀ x : Nat, ((lo : Int) + (x : Int)).toNat = lo + x := fun x => by omega
      simp [upI, wds, List.filter_map, Function.comp_def, e6]
    · intro z hz
      obtain ⟨i, hi⟩ := List.getElem?_of_mem hz
      obtain ⟨rfl, hi2⟩ := upI_get hi
      obtain ⟨ch, hc1, hc2⟩ := row_at hr (show lo + i < r.length by omega)
      have hix : ixG s (.str r) (.int ((lo : Int) + (i : Int))) = .val (.str [ch]) s := ixG_str (by omega) (by rw [← Int.natCast_add]; exact atI_nat hc1)
      have e5 : ((lo : Int) + (i : Int)).toNat = lo + i := by omega
      refine ⟨_, rfl, ?_, fun _ => ⟨rfl, rfl⟩⟩
      simp -implicitDefEqProofs [hix, e5, ← hc2]
    · simp; omega
  have hb : (wds r lo (r.length - lo)).length ≤ r.length := by rw [wds_len, cw]; exact Nat.le_trans (List.length_filter_le _ _) (by simp)
  by_cases h : c < (wds r lo (r.length - lo)).length
  · have h1 : (c : Int) + 1 ≤ (wds r lo (r.length - lo)).length := by omega
    have h2 := List.getElem?_eq_getElem h
    have h3 : dueR r lo c = (wds r lo (r.length - lo))[c] := by rw [dueR, h2]; rfl
    have h4 : ixG s (.lst ((wds r lo (r.length - lo)).map fun (i : Nat) => .int i)) (.int c) = .val (.int (wds r lo (r.length - lo))[c]) s := ixG_lst (atI_nat (by rw [List.getElem?_map, h2]; rfl))
    simp -implicitDefEqProofs [m_law_due, fnF, b_law_due, N_law_due, startD, hL, e, e1, e2, e3, e4, comp, wipeD, h1, h4, h3]
  · have h1 : ¬ (c : Int) + 1 ≤ (wds r lo (r.length - lo)).length := by omega
    have h3 : dueR r lo c = r.length := by rw [dueR, List.getElem?_eq_none (by omega)]; rfl
    simp -implicitDefEqProofs [m_law_due, fnF, b_law_due, N_law_due, startD, hL, e, e1, e2, e3, e4, comp, wipeD, h1, h3]
end Fl
set_option Elab.async false
set_option linter.all false
namespace Fl
/-! ### tables of differences, plain -/
abbrev Tb := Nat → Nat → Int
def rlx (T : Tb) (i j : Nat) (v : Int) : Tb := fun a b => if a = i ∧ b = j then v else T a b
def stp (k i j : Nat) (T : Tb) : Tb := if T i k + T k j < T i j then rlx T i j (T i k + T k j) else T
def rowP (k i : Nat) : Nat → Tb → Tb
  | 0, T => T
  | n + 1, T => stp k i n (rowP k i n T)
def phase (N k : Nat) : Nat → Tb → Tb
  | 0, T => T
  | n + 1, T => rowP k n N (phase N k n T)
def fw (N : Nat) : Nat → Tb → Tb
  | 0, T => T
  | n + 1, T => phase N n N (fw N n T)
theorem stp_le (k i j : Nat) (T : Tb) (a b : Nat) : stp k i j T a b ≤ T a b := by
  unfold stp rlx
  split
  · simp only; split
    · rename_i h e; rw [e.1, e.2]; omega
    · omega
  · omega
theorem rowP_le (k i : Nat) : ∀ (n : Nat) (T : Tb) (a b : Nat), rowP k i n T a b ≤ T a b
  | 0, _, _, _ => Int.le_refl _
  | n + 1, T, a, b => Int.le_trans (stp_le k i n _ a b) (rowP_le k i n T a b)
theorem phase_le (N k : Nat) : ∀ (n : Nat) (T : Tb) (a b : Nat), phase N k n T a b ≤ T a b
  | 0, _, _, _ => Int.le_refl _
  | n + 1, T, a, b => Int.le_trans (rowP_le k n N _ a b) (phase_le N k n T a b)
theorem fw_le (N : Nat) : ∀ (n : Nat) (T : Tb) (a b : Nat), fw N n T a b ≤ T a b
  | 0, _, _, _ => Int.le_refl _
  | n + 1, T, a, b => Int.le_trans (phase_le N n N _ a b) (fw_le N n T a b)
/-- P keeps all bounds -/
def Sat (N : Nat) (P : Nat → Int) (T : Tb) : Prop := ∀ a b, a < N → b < N → P b - P a ≤ T a b
theorem stp_sat {N k i j : Nat} {P : Nat → Int} {T : Tb} (hk : k < N) (hi : i < N) (hj : j < N) (h : Sat N P T) : Sat N P (stp k i j T) := by
  intro a b ha hb
  unfold stp rlx
  split
  · simp only; split
    · rename_i _ e
      rw [e.1, e.2]
      have h1 := h i k hi hk
      have h2 := h k j hk hj
      omega
    · exact h a b ha hb
  · exact h a b ha hb
theorem rowP_sat {N k i : Nat} {P : Nat → Int} (hk : k < N) (hi : i < N) : ∀ (n : Nat) {T : Tb}, n ≤ N → Sat N P T → Sat N P (rowP k i n T)
  | 0, _, _, h => h
  | n + 1, T, hn, h => stp_sat hk hi hn (rowP_sat hk hi n (by omega) h)
theorem phase_sat {N k : Nat} {P : Nat → Int} (hk : k < N) : ∀ (n : Nat) {T : Tb}, n ≤ N → Sat N P T → Sat N P (phase N k n T)
  | 0, _, _, h => h
  | n + 1, T, hn, h => rowP_sat hk hn N (Nat.le_refl _) (phase_sat hk n (by omega) h)
theorem fw_sat {N : Nat} {P : Nat → Int} : ∀ (n : Nat) {T : Tb}, n ≤ N → Sat N P T → Sat N P (fw N n T)
  | 0, _, _, h => h
  | n + 1, T, hn, h => phase_sat hn N (Nat.le_refl _) (fw_sat n (by omega) h)
def thr (S : Tb) (k a b : Nat) : Int := min (S a b) (S a k + S k b)
theorem rowP_eq {N k i : Nat} {S : Tb} (h : 0 ≤ S k k) {T : Tb} (hi : ∀ b, T i b = S i b) (hk : ∀ b, T k b = if k < i then thr S k k b else S k b) (hik : i ≠ k ∨ True) :
    ∀ (n : Nat) (a b : Nat), rowP k i n T a b = if a = i ∧ b < n then thr S k i b else T a b
  | 0, a, b => by simp [rowP]
  | n + 1, a, b => by
    have ih := rowP_eq (N := N) h hi hk hik n
    have kk : ∀ b, thr S k k b = S k b := fun b => by unfold thr; omega
    have hk' : ∀ b, T k b = S k b := fun b => by rw [hk, kk]; split <;> rfl
    have e1 : rowP k i n T i k = S i k := by
      rw [ih, hi]; split
      · unfold thr; omega
      · rfl
    have e2 : rowP k i n T k n = S k n := by
      rw [ih, hk']; split
      · rename_i q; rw [← q.1]
        have := kk n
        rw [q.1] at this ⊢
        simpa using this
      · rfl
    have e3 : rowP k i n T i n = S i n := by rw [ih, if_neg (by omega), hi]
    show stp k i n (rowP k i n T) a b = _
    unfold stp
    rw [e1, e2, e3]
    by_cases hc : S i k + S k n < S i n
    · rw [if_pos hc]
      unfold rlx
      by_cases q : a = i ∧ b = n
      · rw [if_pos q, if_pos ⟨q.1, by omega⟩, q.2]; unfold thr; omega
      · rw [if_neg q, ih]
        by_cases q2 : a = i ∧ b < n
        · rw [if_pos q2, if_pos ⟨q2.1, by omega⟩]
        · rw [if_neg q2, if_neg (by rintro ⟨z1, z2⟩; exact q ⟨z1, by omega⟩)]
    · rw [if_neg hc, ih]
      by_cases q2 : a = i ∧ b < n
      · rw [if_pos q2, if_pos ⟨q2.1, by omega⟩]
      · rw [if_neg q2]
        by_cases q : a = i ∧ b < n + 1
        · have : b = n := by omega
          rw [if_pos q, q.1, this, hi]; unfold thr; omega
        · rw [if_neg q]
theorem phase_eq {N k : Nat} {S : Tb} (h : 0 ≤ S k k) (hk : k < N) : ∀ (n : Nat) (a b : Nat), phase N k n S a b = if a < n ∧ b < N then thr S k a b else S a b
  | 0, a, b => by simp [phase]
  | n + 1, a, b => by
    have ih := phase_eq h hk n
    have kk : ∀ b, thr S k k b = S k b := fun b => by unfold thr; omega
    show rowP k n N (phase N k n S) a b = _
    rw [rowP_eq (N := N) h (T := phase N k n S) (fun b => by rw [ih, if_neg (by omega)]) (fun b => by
      rw [ih]
      by_cases q : k < n
      · rw [if_pos q]
        split
        · rfl
        · rw [kk]
      · rw [if_neg q, if_neg (by omega)]) (.inr trivial), ih]
    by_cases q : a = n ∧ b < N
    · rw [if_pos q, if_pos ⟨by omega, q.2⟩, q.1]
    · rw [if_neg q]
      by_cases q2 : a < n ∧ b < N
      · rw [if_pos q2, if_pos ⟨by omega, q2.2⟩]
      · rw [if_neg q2, if_neg (by omega)]
def Clo (N m : Nat) (T : Tb) : Prop := ∀ a b, a < N → b < N → T a b ≤ T a m + T m b
theorem fw_clo {N : Nat} {T : Tb} : ∀ n : Nat, n ≤ N → (∀ a, a < N → 0 ≤ fw N n T a a) → ∀ m, m < n → Clo N m (fw N n T)
  | 0, _, _, m, hm => by omega
  | n + 1, hn, hd, m, hm => by
    have hn' : n < N := hn
    have hd' : ∀ a, a < N → 0 ≤ fw N n T a a := fun a ha => Int.le_trans (hd a ha) (phase_le N n N _ a a)
    have ih := fw_clo n (by omega) hd'
    intro a b ha hb
    show phase N n N (fw N n T) a b ≤ phase N n N (fw N n T) a m + phase N n N (fw N n T) m b
    generalize fw N n T = S at ih hd'
    have hmN : m < N := by omega
    rw [phase_eq (hd' n hn') hn', phase_eq (hd' n hn') hn', phase_eq (hd' n hn') hn', if_pos ⟨ha, hb⟩, if_pos ⟨ha, hmN⟩, if_pos ⟨hmN, hb⟩]
    have hnn := hd' n hn'
    unfold thr
    by_cases e : m = n
    · subst e; omega
    · have c1 := ih m (by omega) a b ha hb
      have c2 := ih m (by omega) n b hn' hb
      have c3 := ih m (by omega) a n ha hn'
      have c4 := ih m (by omega) n n hn' hn'
      omega
/-- no row, or all ways -/
structure Closed (N : Nat) (T : Tb) : Prop where
  tri : ∀ a m b, a < N → m < N → b < N → T a b ≤ T a m + T m b
  dia : ∀ a, a < N → T a a = 0
theorem fw_closed {N : Nat} {T : Tb} (h0 : ∀ a, a < N → T a a = 0) (hd : ∀ a, a < N → 0 ≤ fw N N T a a) : Closed N (fw N N T) :=
  ⟨fun a m b ha hm hb => fw_clo N (Nat.le_refl _) hd m hm a b ha hb, fun a ha => by have := fw_le N N T a a; have := hd a ha; have := h0 a ha; omega⟩
/-- each number between is met -/
theorem Closed.meet {N : Nat} {T : Tb} (h : Closed N T) {i j : Nat} (hi : i < N) (hj : j < N) {v : Int} (h1 : -T j i ≤ v) (h2 : v ≤ T i j) : ∃ P : Nat → Int, Sat N P T ∧ P i = 0 ∧ P j = v := by
  refine ⟨fun m => min (T i m) (v + T j m), fun a b ha hb => ?_, ?_, ?_⟩
  · have c1 := h.tri i a b hi ha hb
    have c2 := h.tri j a b hj ha hb
    simp only
    omega
  · have := h.dia i hi
    simp only; omega
  · have := h.dia j hj
    simp only; omega
theorem Sat.shift {N : Nat} {P : Nat → Int} {T : Tb} (h : Sat N P T) (c : Int) : Sat N (fun m => P m - c) T := fun a b ha hb => by
  have := h a b ha hb
  simp only; omega
theorem Sat.le {N : Nat} {P : Nat → Int} {T T' : Tb} (h : Sat N P T) (l : ∀ a b, T a b ≤ T' a b) : Sat N P T' := fun a b ha hb => Int.le_trans (h a b ha hb) (l a b)
end Fl
set_option Elab.async false
set_option linter.all false
namespace Fl
/-! ### rows by their numbers -/
def pc (r : List Nat) : Nat → Nat
  | 0 => 0
  | j + 1 => pc r j + if wk r j = true then 1 else 0
theorem cw_pc (r : List Nat) (lo : Nat) : ∀ n, pc r lo + cw r lo n = pc r (lo + n)
  | 0 => by simp [cw]
  | n + 1 => by
    have := cw_pc r lo n
    rw [cw_succ, show lo + (n + 1) = lo + n + 1 by omega, pc]; omega
theorem pc_mono (r : List Nat) {i j : Nat} (h : i ≤ j) : pc r i ≤ pc r j := by
  have := cw_pc r i (j - i)
  rw [show i + (j - i) = j by omega] at this; omega
theorem pc_succ (r : List Nat) (j : Nat) : pc r (j + 1) = pc r j + if wk r j = true then 1 else 0 := rfl
theorem pc_step (r : List Nat) (j : Nat) : pc r (j + 1) ≤ pc r j + 1 := by rw [pc_succ]; split <;> omega
theorem pc_lip (r : List Nat) (i : Nat) : ∀ n, pc r (i + n) ≤ pc r i + n
  | 0 => Nat.le_refl _
  | n + 1 => by have := pc_lip r i n; have := pc_step r (i + n); rw [show i + (n + 1) = i + n + 1 by omega]; omega
theorem cw_find (r : List Nat) (lo c : Nat) : ∀ n, c < cw r lo n → ∃ i, i < n ∧ wk r (lo + i) = true ∧ cw r lo i = c
  | 0, h => by simp [cw] at h
  | n + 1, h => by
    by_cases q : c < cw r lo n
    · obtain ⟨i, h1, h2⟩ := cw_find r lo c n q
      exact ⟨i, by omega, h2⟩
    · rw [cw_succ] at h
      split at h
      · rename_i w; exact ⟨n, by omega, w, by omega⟩
      · omega
theorem dueR_lt {r : List Nat} {lo c e : Nat} (h1 : lo ≤ e) (h2 : e ≤ r.length) : dueR r lo c < e ↔ c < cw r lo (e - lo) := by
  constructor
  · intro h
    refine Classical.byContradiction fun q => ?_
    by_cases z : c < cw r lo (r.length - lo)
    · obtain ⟨i, a1, a2, a3⟩ := cw_find r lo c _ z
      rw [dueR_at (by omega) a2 a3] at h
      have b1 := cw_pc r lo i
      have b2 := cw_pc r lo (e - lo)
      have b3 := pc_mono r (show lo + (i + 1) ≤ lo + (e - lo) by omega)
      have b4 := cw_pc r lo (i + 1)
      have b5 := @cw_succ r lo i
      rw [if_pos a2] at b5
      omega
    · rw [dueR_none (by omega)] at h; omega
  · intro h
    obtain ⟨i, a1, a2, a3⟩ := cw_find r lo c _ h
    rw [dueR_at (by omega) a2 a3]; omega
/-! ### promises -/
def kOn : List Nat := [111, 110]
def kBy : List Nat := [98, 121]
def kFrom : List Nat := [102, 114, 111, 109]
structure Pr where
  k : List Nat
  s : Nat
  c : Nat
  e : Nat
def Pr.d (p : Pr) : D := .tup [.str p.k, .int ((p.s : Int) - 1), .int ((p.c : Int) + 1), .int (p.e : Int)]
structure Pr.ok (n : Nat) (p : Pr) : Prop where
  kd : p.k = kOn ∨ p.k = kBy ∨ p.k = kFrom
  se : p.s ≤ p.e
  en : p.e < n
  cn : p.c < n
def keepsP (r : List Nat) (p : Pr) : Bool := if p.k = kBy then decide (dueR r p.s p.c ≤ p.e) else if p.k = kFrom then decide (p.e ≤ dueR r p.s p.c) else dueR r p.s p.c == p.e
/-- by the numbers up to each day -/
def Okp (P : Nat → Int) (p : Pr) : Prop := (p.k ≠ kFrom → P p.s - P (p.e + 1) ≤ -((p.c : Int) + 1)) ∧ (p.k ≠ kBy → P p.e - P p.s ≤ p.c)
def Pn (r : List Nat) (j : Nat) : Int := (pc r j : Int)
theorem keeps_okp {r : List Nat} {n : Nat} {p : Pr} (hl : r.length = n) (h : p.ok n) : keepsP r p = true ↔ Okp (Pn r) p := by
  have h1 := dueR_lt (r := r) (lo := p.s) (c := p.c) (e := p.e + 1) (by have := h.se; omega) (by have := h.en; omega)
  have h2 := dueR_lt (r := r) (lo := p.s) (c := p.c) (e := p.e) h.se (by have := h.en; omega)
  have b1 := cw_pc r p.s (p.e + 1 - p.s)
  have b2 := cw_pc r p.s (p.e - p.s)
  have hse := h.se
  rw [show p.s + (p.e + 1 - p.s) = p.e + 1 by omega] at b1
  rw [show p.s + (p.e - p.s) = p.e by omega] at b2
  have ne1 : kBy ≠ kFrom := by decide
  have ne2 : kOn ≠ kFrom := by decide
  have ne3 : kOn ≠ kBy := by decide
  unfold keepsP Okp Pn
  rcases h.kd with q | q | q
  · rw [q, if_neg ne3, if_neg ne2]
    simp only [beq_iff_eq]
    constructor
    · intro z; exact ⟨fun _ => by omega, fun _ => by omega⟩
    · rintro ⟨z1, z2⟩
      have := z1 ne2
      have := z2 ne3
      omega
  · rw [q, if_pos rfl]
    simp only [decide_eq_true_eq]
    constructor
    · intro z; exact ⟨fun _ => by omega, fun z => absurd rfl z⟩
    · rintro ⟨z1, z2⟩
      have := z1 ne1
      omega
  · rw [q, if_neg (Ne.symm ne1), if_pos rfl]
    simp only [decide_eq_true_eq]
    constructor
    · intro z; exact ⟨fun z => absurd rfl z, fun _ => by omega⟩
    · rintro ⟨z1, z2⟩
      have := z2 (Ne.symm ne1)
      omega
/-! ### known days, rows that fit -/
def Kn (k : List Nat) : Prop := ∀ c ∈ k, c = 119 ∨ c = 102 ∨ c = 63
structure Fits (k : List Nat) (ps : List Pr) (r : List Nat) : Prop where
  row : Row r
  len : r.length = k.length
  day : ∀ d : Nat, d < k.length → k[d]? = some 63 ∨ k[d]? = r[d]?
  kp : ∀ p ∈ ps, keepsP r p = true
/-! ### the first bounds -/
def zeroT : Tb := fun a b => if a = b then 0 else 99
def dayT (k : List Nat) : Nat → Tb
  | 0 => zeroT
  | d + 1 => rlx (rlx (dayT k d) d (d + 1) (if k[d]? = some 102 then 0 else 1)) (d + 1) d (if k[d]? = some 119 then -1 else 0)
def byT (p : Pr) (T : Tb) : Tb := if p.k = kFrom then T else rlx T (p.e + 1) p.s (min (T (p.e + 1) p.s) (-((p.c : Int) + 1)))
def frT (p : Pr) (T : Tb) : Tb := if p.k = kBy then T else rlx T p.s p.e (min (T p.s p.e) (p.c : Int))
def prT (p : Pr) (T : Tb) : Tb := frT p (byT p T)
def prsT : List Pr → Tb → Tb
  | [], T => T
  | p :: ps, T => prsT ps (prT p T)
def firstT (k : List Nat) (ps : List Pr) : Tb := prsT ps (dayT k k.length)
theorem rlx_at (T : Tb) (i j : Nat) (v : Int) : rlx T i j v i j = v := by unfold rlx; simp
theorem rlx_ne (T : Tb) {i j a b : Nat} (v : Int) (h : ¬ (a = i ∧ b = j)) : rlx T i j v a b = T a b := by unfold rlx; simp only [if_neg h]
theorem rlx_min_sat {N i j : Nat} {v : Int} {P : Nat → Int} {T : Tb} (hi : i < N) (hj : j < N) : Sat N P (rlx T i j (min (T i j) v)) ↔ Sat N P T ∧ P j - P i ≤ v := by
  constructor
  · intro h
    refine ⟨fun a b ha hb => ?_, ?_⟩
    · have := h a b ha hb
      unfold rlx at this
      split at this
      · rename_i e; rw [e.1, e.2] at this ⊢; omega
      · exact this
    · have := h i j hi hj
      unfold rlx at this
      rw [if_pos ⟨rfl, rfl⟩] at this; omega
  · rintro ⟨h, hv⟩ a b ha hb
    unfold rlx
    split
    · rename_i e; rw [e.1, e.2]; have := h i j hi hj; omega
    · exact h a b ha hb
theorem prT_sat {n : Nat} {P : Nat → Int} {T : Tb} {p : Pr} (h : p.ok n) : Sat (n + 1) P (prT p T) ↔ Sat (n + 1) P T ∧ Okp P p := by
  have hse := h.se
  have hen := h.en
  have key : ∀ T, Sat (n + 1) P (byT p T) ↔ Sat (n + 1) P T ∧ (p.k ≠ kFrom → P p.s - P (p.e + 1) ≤ -((p.c : Int) + 1)) := fun T => by
    unfold byT
    by_cases q : p.k = kFrom
    · rw [if_pos q]; exact ⟨fun z => ⟨z, fun y => absurd q y⟩, fun z => z.1⟩
    · rw [if_neg q, rlx_min_sat (by omega) (by omega)]
      exact ⟨fun z => ⟨z.1, fun _ => z.2⟩, fun z => ⟨z.1, z.2 q⟩⟩
  have key2 : ∀ T, Sat (n + 1) P (frT p T) ↔ Sat (n + 1) P T ∧ (p.k ≠ kBy → P p.e - P p.s ≤ p.c) := fun T => by
    unfold frT
    by_cases q : p.k = kBy
    · rw [if_pos q]; exact ⟨fun z => ⟨z, fun y => absurd q y⟩, fun z => z.1⟩
    · rw [if_neg q, rlx_min_sat (by omega) (by omega)]
      exact ⟨fun z => ⟨z.1, fun _ => z.2⟩, fun z => ⟨z.1, z.2 q⟩⟩
  unfold prT Okp
  rw [key2, key, and_assoc]
theorem prsT_sat {n : Nat} {P : Nat → Int} : ∀ {ps : List Pr} {T : Tb}, (∀ p ∈ ps, p.ok n) → (Sat (n + 1) P (prsT ps T) ↔ Sat (n + 1) P T ∧ ∀ p ∈ ps, Okp P p)
  | [], T, _ => by simp [prsT]
  | p :: ps, T, h => by
    rw [prsT, prsT_sat (fun q hq => h q (by simp [hq])), prT_sat (h p (by simp))]
    simp only [List.mem_cons, forall_eq_or_imp, and_assoc]
theorem prT_dia {p : Pr} {T : Tb} {a : Nat} (h : T a a = 0) (hse : p.s ≤ p.e) : prT p T a a = 0 := by
  have h1 : byT p T a a = 0 := by
    unfold byT; split
    · exact h
    · rw [rlx_ne _ _ (by omega)]; exact h
  unfold prT frT
  split
  · exact h1
  · by_cases e : a = p.s ∧ a = p.e
    · rw [← e.1, ← e.2, rlx_at, h1]; omega
    · rw [rlx_ne _ _ e]; exact h1
theorem prsT_dia {n : Nat} {a : Nat} : ∀ {ps : List Pr} {T : Tb}, T a a = 0 → (∀ p ∈ ps, p.ok n) → prsT ps T a a = 0
  | [], _, h, _ => h
  | p :: ps, T, h, hp => prsT_dia (T := prT p _) (prT_dia h (hp p (by simp)).se) fun q hq => hp q (by simp [hq])
theorem dayT_dia (k : List Nat) (a : Nat) : ∀ d, dayT k d a a = 0
  | 0 => by simp [dayT, zeroT]
  | d + 1 => by
    have := dayT_dia k a d
    unfold dayT
    rw [rlx_ne _ _ (by omega), rlx_ne _ _ (by omega)]; exact this
theorem first_dia {k : List Nat} {ps : List Pr} {n : Nat} (h : ∀ p ∈ ps, p.ok n) (a : Nat) : firstT k ps a a = 0 := prsT_dia (dayT_dia k a _) h
/-! ### days -/
theorem dayT_eq (k : List Nat) : ∀ (m a b : Nat), dayT k m a b = if b = a + 1 ∧ a < m then (if k[a]? = some 102 then 0 else 1) else if a = b + 1 ∧ b < m then (if k[b]? = some 119 then -1 else 0) else zeroT a b
  | 0, a, b => by rw [dayT, if_neg (by omega), if_neg (by omega)]
  | m + 1, a, b => by
    have ih := dayT_eq k m a b
    unfold dayT
    by_cases e1 : a = m + 1 ∧ b = m
    · obtain ⟨rfl, rfl⟩ := e1
      rw [rlx_at, if_neg (show ¬ (b = b + 1 + 1 ∧ b + 1 < b + 1) by omega), if_pos (show b + 1 = b + 1 ∧ b < b + 1 by omega)]
    · rw [rlx_ne _ _ e1]
      by_cases e2 : a = m ∧ b = m + 1
      · obtain ⟨rfl, rfl⟩ := e2
        rw [rlx_at, if_pos (show a + 1 = a + 1 ∧ a < a + 1 by omega)]
      · rw [rlx_ne _ _ e2, ih]
        have q1 : (b = a + 1 ∧ a < m + 1) ↔ (b = a + 1 ∧ a < m) := by omega
        have q2 : (a = b + 1 ∧ b < m + 1) ↔ (a = b + 1 ∧ b < m) := by omega
        simp only [q1, q2]
structure Case (k : List Nat) (ps : List Pr) : Prop where
  kn : Kn k
  len : k.length ≤ 90
  ok : ∀ p ∈ ps, p.ok k.length
def DayOk (k : List Nat) (P : Nat → Int) : Prop := ∀ d : Nat, d < k.length → P (d + 1) - P d ≤ (if k[d]? = some 102 then 0 else 1) ∧ P d - P (d + 1) ≤ (if k[d]? = some 119 then -1 else 0)
theorem day_lip {k : List Nat} {P : Nat → Int} (h : DayOk k P) {a : Nat} : ∀ m : Nat, a + m ≤ k.length → P a ≤ P (a + m) ∧ P (a + m) ≤ P a + m
  | 0, _ => by simp
  | m + 1, hm => by
    have ih := day_lip h (a := a) m (by omega)
    obtain ⟨h1, h2⟩ := h (a + m) (by omega)
    have e1 : (if k[a + m]? = some 102 then (0 : Int) else 1) ≤ 1 := by split <;> omega
    have e2 : (if k[a + m]? = some 119 then (-1 : Int) else 0) ≤ 0 := by split <;> omega
    rw [show a + (m + 1) = a + m + 1 by omega]
    omega
theorem dayT_sat {k : List Nat} {P : Nat → Int} (hl : k.length ≤ 90) : Sat (k.length + 1) P (dayT k k.length) ↔ DayOk k P := by
  constructor
  · intro h d hd
    have h1 := h d (d + 1) (by omega) (by omega)
    have h2 := h (d + 1) d (by omega) (by omega)
    rw [dayT_eq, if_pos ⟨rfl, hd⟩] at h1
    rw [dayT_eq, if_neg (by omega), if_pos ⟨rfl, hd⟩] at h2
    exact ⟨h1, h2⟩
  · intro h a b ha hb
    rw [dayT_eq]
    split
    · rename_i e; rw [e.1]; exact (h a e.2).1
    · split
      · rename_i e; rw [e.1]; exact (h b e.2).2
      · unfold zeroT
        split
        · rename_i e; rw [e]; omega
        · rcases Nat.le_total a b with q | q
          · obtain ⟨m, rfl⟩ := Nat.le.dest q
            have := day_lip h (a := a) m (by omega)
            omega
          · obtain ⟨m, rfl⟩ := Nat.le.dest q
            have := day_lip h (a := b) m (by omega)
            omega
theorem first_sat {k : List Nat} {ps : List Pr} (c : Case k ps) {P : Nat → Int} : Sat (k.length + 1) P (firstT k ps) ↔ DayOk k P ∧ ∀ p ∈ ps, Okp P p := by
  rw [firstT, prsT_sat c.ok, dayT_sat c.len]
theorem wk_iff {r : List Nat} {d : Nat} : wk r d = true ↔ r[d]? = some 119 := by unfold wk; simp
theorem fits_sat {k : List Nat} {ps : List Pr} (c : Case k ps) {r : List Nat} (hr : Row r) (hl : r.length = k.length) : Fits k ps r ↔ Sat (k.length + 1) (Pn r) (firstT k ps) := by
  rw [first_sat c]
  have kd : (∀ d : Nat, d < k.length → k[d]? = some 63 ∨ k[d]? = r[d]?) ↔ DayOk k (Pn r) := by
    constructor
    · intro h d hd
      have h0 := h d hd
      obtain ⟨ch, hc, _⟩ := row_at hr (show d < r.length by omega)
      have hs := pc_succ r d
      have hw := @wk_iff r d
      have hk : k[d]? = some k[d] := List.getElem?_eq_getElem hd
      rw [hc] at h0 hw
      unfold Pn
      rcases h0 with h0 | h0
      · rw [h0, if_neg (by decide), if_neg (by decide)]
        split at hs <;> omega
      · rw [h0]
        by_cases e : ch = 119
        · subst e
          rw [if_pos (hw.mpr rfl)] at hs
          rw [if_neg (by decide), if_pos rfl]; omega
        · rw [if_neg (fun z => e (Option.some.inj (hw.mp z)))] at hs
          rw [if_neg (fun z => e (Option.some.inj z))]
          split <;> omega
    · intro h d hd
      obtain ⟨h1, h2⟩ := h d hd
      obtain ⟨ch, hc, _⟩ := row_at hr (show d < r.length by omega)
      have hch : ch = 119 ∨ ch = 102 := hr ch (List.mem_of_getElem? hc)
      have hs := pc_succ r d
      have hw := @wk_iff r d
      have hk : k[d]? = some k[d] := List.getElem?_eq_getElem hd
      rw [hc] at hw ⊢
      rw [hk] at h1 h2 ⊢
      unfold Pn at h1 h2
      rcases c.kn k[d] (List.getElem_mem hd) with q | q | q
      · right
        rw [q, if_pos rfl] at h2
        split at hs
        · rename_i z; rw [q]; exact (hw.mp z).symm
        · omega
      · right
        rw [q, if_pos rfl] at h1
        split at hs
        · omega
        · rename_i z
          rcases hch with e | e
          · exact absurd (hw.mpr (by rw [e])) z
          · rw [q, e]
      · left; rw [q]
  constructor
  · intro h
    exact ⟨kd.mp h.day, fun p hp => (keeps_okp hl (c.ok p hp)).mp (h.kp p hp)⟩
  · rintro ⟨h1, h2⟩
    exact ⟨hr, hl, kd.mpr h1, fun p hp => (keeps_okp hl (c.ok p hp)).mpr (h2 p hp)⟩
/-- the row of such numbers -/
def rowOf (P : Nat → Int) (n : Nat) : List Nat := (List.range n).map fun d => if P (d + 1) - P d = 1 then 119 else 102
theorem rowOf_row (P : Nat → Int) (n : Nat) : Row (rowOf P n) := fun c hc => by
  obtain ⟨d, _, rfl⟩ := List.mem_map.mp hc
  split
  · exact .inl rfl
  · exact .inr rfl
theorem rowOf_len (P : Nat → Int) (n : Nat) : (rowOf P n).length = n := by simp [rowOf]
theorem rowOf_at {P : Nat → Int} {n d : Nat} (h : d < n) : (rowOf P n)[d]? = some (if P (d + 1) - P d = 1 then 119 else 102) := by
  unfold rowOf
  rw [List.getElem?_map, List.getElem?_range h]; rfl
theorem rowOf_pc {k : List Nat} {P : Nat → Int} (h : DayOk k P) : ∀ j : Nat, j ≤ k.length → (pc (rowOf P k.length) j : Int) = P j - P 0
  | 0, _ => by simp [pc]
  | j + 1, hj => by
    have ih := rowOf_pc h j (by omega)
    have hl := day_lip h (a := j) 1 (by omega)
    have hs := pc_succ (rowOf P k.length) j
    have hw := @wk_iff (rowOf P k.length) j
    rw [rowOf_at (by omega)] at hw
    by_cases e : P (j + 1) - P j = 1
    · rw [if_pos e] at hw
      rw [if_pos (hw.mpr rfl)] at hs
      omega
    · rw [if_neg e] at hw
      rw [if_neg (fun z => by have := hw.mp z; simp at this)] at hs
      omega
theorem Okp.congr {P Q : Nat → Int} {p : Pr} {n : Nat} {c : Int} (ok : p.ok n) (h : ∀ j, j ≤ n → Q j = P j - c) (o : Okp P p) : Okp Q p := by
  have h1 := h p.s (by have := ok.se; have := ok.en; omega)
  have h2 := h p.e (by have := ok.en; omega)
  have h3 := h (p.e + 1) (by have := ok.en; omega)
  unfold Okp at o ⊢
  rw [h1, h2, h3]
  exact ⟨fun z => by have := o.1 z; omega, fun z => by have := o.2 z; omega⟩
theorem sat_row {k : List Nat} {ps : List Pr} (c : Case k ps) {P : Nat → Int} (h : Sat (k.length + 1) P (firstT k ps)) : Fits k ps (rowOf P k.length) ∧ ∀ j : Nat, j ≤ k.length → (pc (rowOf P k.length) j : Int) = P j - P 0 := by
  obtain ⟨h1, h2⟩ := (first_sat c).mp h
  have hp := rowOf_pc h1
  refine ⟨(fits_sat c (rowOf_row _ _) (rowOf_len _ _)).mpr ((first_sat c).mpr ⟨fun d hd => ?_, fun p hp' => (h2 p hp').congr (c.ok p hp') hp⟩), hp⟩
  obtain ⟨q1, q2⟩ := h1 d hd
  have e1 := hp d (by omega)
  have e2 := hp (d + 1) (by omega)
  unfold Pn
  rw [e1, e2]
  constructor <;> omega
/-! ### all bounds -/
def allT (k : List Nat) (ps : List Pr) : Tb := fw (k.length + 1) (k.length + 1) (firstT k ps)
def Good (k : List Nat) (ps : List Pr) : Prop := ∀ a, a < k.length + 1 → 0 ≤ allT k ps a a
theorem Good.closed {k : List Nat} {ps : List Pr} (c : Case k ps) (g : Good k ps) : Closed (k.length + 1) (allT k ps) := fw_closed (fun a _ => first_dia c.ok a) g
theorem allT_le (k : List Nat) (ps : List Pr) (a b : Nat) : allT k ps a b ≤ firstT k ps a b := fw_le _ _ _ a b
theorem Fits.sat {k : List Nat} {ps : List Pr} (c : Case k ps) {r : List Nat} (f : Fits k ps r) : Sat (k.length + 1) (Pn r) (allT k ps) := fw_sat _ (Nat.le_refl _) ((fits_sat c f.row f.len).mp f)
theorem Fits.good {k : List Nat} {ps : List Pr} (c : Case k ps) {r : List Nat} (f : Fits k ps r) : Good k ps := fun a ha => by
  have := f.sat c a a ha ha
  omega
theorem Good.meet {k : List Nat} {ps : List Pr} (c : Case k ps) (g : Good k ps) {i j : Nat} (hi : i ≤ k.length) (hj : j ≤ k.length) {v : Int} (h1 : -allT k ps j i ≤ v) (h2 : v ≤ allT k ps i j) : ∃ r, Fits k ps r ∧ (pc r j : Int) - pc r i = v := by
  obtain ⟨P, s, p1, p2⟩ := (g.closed c).meet (i := i) (j := j) (by omega) (by omega) h1 h2
  obtain ⟨f, hp⟩ := sat_row c (s.le (allT_le k ps))
  refine ⟨_, f, ?_⟩
  rw [hp i hi, hp j hj]; omega
theorem good_iff {k : List Nat} {ps : List Pr} (c : Case k ps) : Good k ps ↔ ∃ r, Fits k ps r := by
  constructor
  · intro g
    have d := (g.closed c).dia 0 (by omega)
    obtain ⟨r, f, _⟩ := g.meet c (i := 0) (j := 0) (v := 0) (by omega) (by omega) (by omega) (by omega)
    exact ⟨r, f⟩
  · rintro ⟨r, f⟩
    exact f.good c
end Fl
set_option Elab.async false
set_option linter.all false
set_option maxRecDepth 100000
set_option maxHeartbeats 1000000
namespace Fl
open L2
/-! ### a table in the store -/
def rowO (N : Nat) (T : Tb) (i : Nat) : SO := .lst ((List.range N).map fun j => D.int (T i j))
def obsR (n N : Nat) : List D := (List.range N).map fun i => D.ob (n + i)
def tabS (s : Sto) (N : Nat) (T : Tb) : Sto := s ++ ((List.range N).map (rowO N T) ++ [.lst (obsR s.length N)])
theorem tab_row {s : Sto} {N : Nat} {T : Tb} {i : Nat} (h : i < N) : (tabS s N T)[s.length + i]? = some (rowO N T i) := by
  unfold tabS
  rw [List.getElem?_append_right (by omega), Nat.add_sub_cancel_left, List.getElem?_append_left (by simpa using h), List.getElem?_map, List.getElem?_range h]; rfl
theorem tab_top {s : Sto} {N : Nat} {T : Tb} : (tabS s N T)[s.length + N]? = some (.lst (obsR s.length N)) := by
  unfold tabS
  rw [List.getElem?_append_right (by omega), Nat.add_sub_cancel_left, List.getElem?_append_right (by simp)]; simp
theorem range_set {α : Type} {N j : Nat} {f : Nat → α} {v : α} : ((List.range N).map f).set j v = (List.range N).map fun x => if x = j then v else f x := by
  apply List.ext_getElem?
  intro k
  by_cases hk : k < N
  · rw [List.getElem?_map, List.getElem?_range hk, List.getElem?_set]
    simp only [List.getElem?_map, List.getElem?_range hk, List.length_map, List.length_range, Option.map_some]
    by_cases e : j = k
    · subst e; simp [hk]
    · rw [if_neg e, if_neg (Ne.symm e)]
  · rw [List.getElem?_eq_none (by simp; omega), List.getElem?_eq_none (by simp; omega)]
theorem tab_set {s : Sto} {N : Nat} {T : Tb} {i j : Nat} {v : Int} (h : i < N) : (tabS s N T).set (s.length + i) (.lst (((List.range N).map fun j => D.int (T i j)).set j (.int v))) = tabS s N (rlx T i j v) := by
  unfold tabS
  rw [List.set_append_right _ _ (by omega), Nat.add_sub_cancel_left, List.set_append_left _ _ (by simpa using h), range_set, range_set]
  congr 2
  apply List.map_congr_left
  intro x _
  by_cases e : x = i
  · subst e
    rw [if_pos rfl]
    unfold rowO
    congr 1
    apply List.map_congr_left
    intro y _
    by_cases e2 : y = j
    · subst e2; rw [if_pos rfl, rlx_at]
    · rw [if_neg e2, rlx_ne _ _ (by omega)]
  · rw [if_neg e]
    unfold rowO
    congr 1
    apply List.map_congr_left
    intro y _
    rw [rlx_ne _ _ (by omega)]
theorem ix_top {s : Sto} {N : Nat} {T : Tb} {x : Int} (i : Nat) (h : i < N) (hx : x = i) : ixG (tabS s N T) (.ob (s.length + N)) (.int x) = .val (.ob (s.length + i)) (tabS s N T) := by
  subst hx
  exact ixG_ob tab_top (atI_nat (by unfold obsR; rw [List.getElem?_map, List.getElem?_range h]; rfl))
theorem ix_row {s : Sto} {N : Nat} {T : Tb} {y : Int} (i j : Nat) (hi : i < N) (h : j < N) (hy : y = j) : ixG (tabS s N T) (.ob (s.length + i)) (.int y) = .val (.int (T i j)) (tabS s N T) := by
  subst hy
  exact ixG_ob (tab_row hi) (atI_nat (by rw [List.getElem?_map, List.getElem?_range h]; rfl))
theorem set_tab {s : Sto} {N : Nat} {T : Tb} {δ : Sl} {fo fi : EF} {v y : Int} (i j : Nat) (hi : i < N) (hj : j < N) (hy : y = j) (h1 : fo δ (tabS s N T) = .val (.ob (s.length + i)) (tabS s N T)) (h2 : fi δ (tabS s N T) = .val (.int y) (tabS s N T)) :
    setI fo fi (.int v) δ (tabS s N T) = .val δ (tabS s N (rlx T i j v)) := by
  subst hy
  rw [e_setI, h1, O.bind_val, h2, O.bind_val]
  simp only [tab_row hi]
  have e : ixN ((List.range N).map fun j => D.int (T i j)).length (j : Int) = some j := by simp [ixN]; omega
  unfold rowO
  simp only [e]
  rw [tab_set hi]
theorem len_tab {s : Sto} {N : Nat} {T : Tb} : lenG (tabS s N T) [.ob (s.length + N)] = .val (.int N) (tabS s N T) := by
  rw [lenG_obD, tab_top]; simp [obsR]
theorem loopA_pure {g : GF} {t : BF} {e : EF} {δ : Sl} {s : Sto} (v : D → D) : ∀ (xs acc : List D), (∀ x ∈ xs, ∃ δ1, g x δ s = .val δ1 s ∧ t δ1 s = .val true s ∧ e δ1 s = .val (v x) s) → acc.length + xs.length ≤ 16000000 →
    loopA g t e δ xs acc s = .val (acc ++ xs.map v) s
  | [], acc, _, _ => by simp
  | x :: xs, acc, h, hl => by
    obtain ⟨δ1, h1, h2, h3⟩ := h x (by simp)
    have ih := fun acc' hl' => loopA_pure v xs acc' (fun y hy => h y (by simp [hy])) hl'
    simp only [List.length_cons] at hl
    rw [loopA_cons, h1, noX_val, O.bind_val, h2, quiet_val, O.bind_val, if_pos rfl, h3, quiet_val, O.bind_val, if_pos (by omega), ih _ (by simp; omega)]
    simp
theorem loopA_own {g : GF} {t : BF} {e : EF} {δ : Sl} (row : D → List D) : ∀ (xs acc : List D) (s : Sto), (∀ x ∈ xs, ∀ s', ∃ δ1, g x δ s' = .val δ1 s' ∧ t δ1 s' = .val true s' ∧ e δ1 s' = .val (.ob s'.length) (s' ++ [.lst (row x)])) → acc.length + xs.length ≤ 16000000 →
    loopA g t e δ xs acc s = .val (acc ++ obsR s.length xs.length) (s ++ xs.map fun x => .lst (row x))
  | [], acc, s, _, _ => by simp [obsR]
  | x :: xs, acc, s, h, hl => by
    obtain ⟨δ1, h1, h2, h3⟩ := h x (by simp) s
    have ih := fun acc' hl' => loopA_own row xs acc' (s ++ [.lst (row x)]) (fun y hy => h y (by simp [hy])) hl'
    simp only [List.length_cons] at hl
    rw [loopA_cons, h1, noX_val, O.bind_val, h2, quiet_val, O.bind_val, if_pos rfl, h3, quiet_val, O.bind_val, if_pos (by omega), ih _ (by simp; omega)]
    have e2 : obsR s.length (x :: xs).length = .ob s.length :: obsR (s.length + 1) xs.length := by
      unfold obsR
      rw [List.length_cons, List.range_succ_eq_map]
      simp only [List.map_cons, List.map_map, Nat.add_zero]
      congr 1
      apply List.map_congr_left
      intro a _
      simp; omega
    rw [e2]
    simp
/-! ### first_bounds -/
theorem sm_nat {n : Nat} (h : n ≤ 1000000) : sm (n : Int) = true := sm_of (by omega) (by omega)
theorem sm_nat1 {n : Nat} (h : n ≤ 1000000) : sm ((n : Int) + 1) = true := sm_of (by omega) (by omega)
theorem num_at {n : Nat} {ds : List D} {i : Nat} {x : D} (h : (numbered n ds)[i]? = some x) : ∃ d, ds[i]? = some d ∧ x = .tup [.int ((n + i : Nat) : Int), d] := by
  rw [numbered_get] at h
  obtain ⟨d, h1, rfl⟩ := Option.map_eq_some_iff.mp h
  exact ⟨d, h1, rfl⟩
def signs (k : List Nat) : List D := k.map fun c => .str [c]
@[simp] theorem srcD_str {k : List Nat} : srcD (.str k) = some (signs k) := rfl
@[simp] theorem srcD_tup {ds : List D} : srcD (.tup ds) = some ds := rfl
@[simp] theorem srcD_lst {ds : List D} : srcD (.lst ds) = some ds := rfl
@[simp] theorem e_enum {fr : AF} {δ : Sl} {s : Sto} : enumF fr δ s = (fr δ s).bind fun ds s1 => match ds with
  | [x] => match srcD x with
    | some xs => .val (numbered 0 xs) s1
    | none => .stuck
  | _ => .stuck := rfl
@[simp] theorem minG_two {s : Sto} {i j : Int} : minG s [.int i, .int j] = .val (.int (if j < i then j else i)) s := rfl
theorem min_if (i j : Int) : (if j < i then j else i) = min i j := by omega
theorem prsT_take {ps : List Pr} {i : Nat} {p : Pr} {T : Tb} (h : ps[i]? = some p) : prsT (ps.take (i + 1)) T = prT p (prsT (ps.take i) T) := by
  induction ps generalizing i T with
  | nil => simp at h
  | cons q ps ih =>
    cases i with
    | zero => simp at h; subst h; simp [prsT]
    | succ i =>
      simp at h
      simp only [List.take_succ_cons, prsT]
      exact ih h
theorem fb_day {s : Sto} {k : List Nat} {d c : Nat} {a0 a1 a2 a6 a7 a8 a9 a10 a11 : Option D} {a4 a5 : Option D} (hc : k[d]? = some c) :
    turn (tupG [(nameG 4), (nameG 5)]) l_first_bounds_1 (.tup [.int (d : Int), .str [c]]) [a0, a1, a2, some (.ob (s.length + (k.length + 1))), a4, a5, a6, a7, a8, a9, a10, a11] (tabS s (k.length + 1) (dayT k d))
      = .nx [a0, a1, a2, some (.ob (s.length + (k.length + 1))), some (.int (d : Int)), some (.str [c]), a6, a7, a8, a9, a10, a11] (tabS s (k.length + 1) (dayT k (d + 1))) := by
  have hd : d < k.length := (List.getElem?_eq_some_iff.mp hc).1
  have q1 : ∀ (v : Int) (T : Tb), setI (bin ixG (varF 3) (varF 4)) (bin addG (varF 4) (cF (.int 1))) (.int v) [a0, a1, a2, some (.ob (s.length + (k.length + 1))), some (.int (d : Int)), some (.str [c]), a6, a7, a8, a9, a10, a11] (tabS s (k.length + 1) T) = .val [a0, a1, a2, some (.ob (s.length + (k.length + 1))), some (.int (d : Int)), some (.str [c]), a6, a7, a8, a9, a10, a11] (tabS s (k.length + 1) (rlx T d (d + 1) v)) := fun v T =>
    set_tab (y := (d : Int) + 1) d (d + 1) (by omega) (by omega) (by omega) (by simp only [e_bin, e_var, List.getElem?_cons_succ, List.getElem?_cons_zero, O.bind_val]; exact ix_top d (by omega) rfl) rfl
  have q2 : ∀ (v : Int) (T : Tb), setI (bin ixG (varF 3) (bin addG (varF 4) (cF (.int 1)))) (varF 4) (.int v) [a0, a1, a2, some (.ob (s.length + (k.length + 1))), some (.int (d : Int)), some (.str [c]), a6, a7, a8, a9, a10, a11] (tabS s (k.length + 1) T) = .val [a0, a1, a2, some (.ob (s.length + (k.length + 1))), some (.int (d : Int)), some (.str [c]), a6, a7, a8, a9, a10, a11] (tabS s (k.length + 1) (rlx T (d + 1) d v)) := fun v T =>
    set_tab (y := (d : Int)) (d + 1) d (by omega) (by omega) rfl (by simp only [e_bin, e_var, e_c, addG_int, List.getElem?_cons_succ, List.getElem?_cons_zero, O.bind_val]; exact ix_top (d + 1) (by omega) (by omega)) rfl
  have e3 : dayT k (d + 1) = rlx (rlx (dayT k d) d (d + 1) (if c = 102 then 0 else 1)) (d + 1) d (if c = 119 then -1 else 0) := by
    rw [dayT, hc]; simp only [Option.some.injEq]
  by_cases h1 : c = 119
  · subst h1
    simp -implicitDefEqProofs [-e_setI, turn, l_first_bounds_1, q1, q2, e3]
  · by_cases h2 : c = 102
    · subst h2
      simp -implicitDefEqProofs [-e_setI, turn, l_first_bounds_1, q1, q2, e3]
    · simp -implicitDefEqProofs [-e_setI, turn, l_first_bounds_1, q1, q2, e3, h1, h2]
theorem fb_pr {s : Sto} {N : Nat} {T : Tb} {p : Pr} {a0 a1 a2 a4 a5 a6 a7 a8 a9 a10 a11 : Option D} (ok : p.ok (N - 1)) :
    turn (tupG [(nameG 6), (nameG 7), (nameG 8), (nameG 9)]) l_first_bounds_2 p.d [a0, a1, a2, some (.ob (s.length + N)), a4, a5, a6, a7, a8, a9, a10, a11] (tabS s N T)
      = .nx [a0, a1, a2, some (.ob (s.length + N)), a4, a5, some (.str p.k), some (.int ((p.s : Int) - 1)), some (.int ((p.c : Int) + 1)), some (.int (p.e : Int)), a10, a11] (tabS s N (prT p T)) := by
  obtain ⟨hk, hse, hen, hcn⟩ := ok
  have r1 : ∀ T : Tb, ixG (tabS s N T) (.ob (s.length + N)) (.int ((p.e : Int) + 1)) = .val (.ob (s.length + (p.e + 1))) (tabS s N T) := fun T => ix_top (p.e + 1) (by omega) (by omega)
  have r2 : ∀ T : Tb, ixG (tabS s N T) (.ob (s.length + N)) (.int (p.s : Int)) = .val (.ob (s.length + p.s)) (tabS s N T) := fun T => ix_top p.s (by omega) rfl
  have r3 : ∀ T : Tb, ixG (tabS s N T) (.ob (s.length + (p.e + 1))) (.int (p.s : Int)) = .val (.int (T (p.e + 1) p.s)) (tabS s N T) := fun T => ix_row (p.e + 1) p.s (by omega) (by omega) rfl
  have r4 : ∀ T : Tb, ixG (tabS s N T) (.ob (s.length + p.s)) (.int (p.e : Int)) = .val (.int (T p.s p.e)) (tabS s N T) := fun T => ix_row p.s p.e (by omega) (by omega) rfl
  have q1 : ∀ (v : Int) (T : Tb), setI (bin ixG (varF 3) (bin addG (varF 9) (cF (.int 1)))) (bin addG (varF 7) (cF (.int 1))) (.int v) [a0, a1, a2, some (.ob (s.length + N)), a4, a5, some (.str p.k), some (.int ((p.s : Int) - 1)), some (.int ((p.c : Int) + 1)), some (.int (p.e : Int)), a10, a11] (tabS s N T) = .val [a0, a1, a2, some (.ob (s.length + N)), a4, a5, some (.str p.k), some (.int ((p.s : Int) - 1)), some (.int ((p.c : Int) + 1)), some (.int (p.e : Int)), a10, a11] (tabS s N (rlx T (p.e + 1) p.s v)) := fun v T =>
    set_tab (y := (p.s : Int) - 1 + 1) (p.e + 1) p.s (by omega) (by omega) (by omega) (by simp only [e_bin, e_var, e_c, addG_int, List.getElem?_cons_succ, List.getElem?_cons_zero, O.bind_val]; exact r1 T) rfl
  have q2 : ∀ (v : Int) (T : Tb), setI (bin ixG (varF 3) (bin addG (varF 7) (cF (.int 1)))) (varF 9) (.int v) [a0, a1, a2, some (.ob (s.length + N)), a4, a5, some (.str p.k), some (.int ((p.s : Int) - 1)), some (.int ((p.c : Int) + 1)), some (.int (p.e : Int)), a10, a11] (tabS s N T) = .val [a0, a1, a2, some (.ob (s.length + N)), a4, a5, some (.str p.k), some (.int ((p.s : Int) - 1)), some (.int ((p.c : Int) + 1)), some (.int (p.e : Int)), a10, a11] (tabS s N (rlx T p.s p.e v)) := fun v T =>
    set_tab (y := (p.e : Int)) p.s p.e (by omega) (by omega) (by omega) (by simp only [e_bin, e_var, e_c, addG_int, List.getElem?_cons_succ, List.getElem?_cons_zero, O.bind_val]; rw [show (p.s : Int) - 1 + 1 = p.s by omega]; exact r2 T) rfl
  have z : (p.s : Int) - 1 + 1 = p.s := by omega
  have z2 : (p.c : Int) + 1 - 1 = p.c := by omega
  rcases hk with e | e | e
  · rw [e] at q1 q2
    unfold kOn at q1 q2
    simp -implicitDefEqProofs [-e_setI, -ixG_obD, turn, l_first_bounds_2, Pr.d, e, kOn, q1, q2, r1, r2, r3, r4, z, z2, prT, byT, frT, kBy, kFrom, min_if]
  · rw [e] at q1 q2
    unfold kBy at q1 q2
    simp -implicitDefEqProofs [-e_setI, -ixG_obD, turn, l_first_bounds_2, Pr.d, e, kBy, q1, q2, r1, r2, r3, r4, z, z2, prT, byT, frT, kFrom, min_if]
  · rw [e] at q1 q2
    unfold kFrom at q1 q2
    simp -implicitDefEqProofs [-e_setI, -ixG_obD, turn, l_first_bounds_2, Pr.d, e, kFrom, q1, q2, r1, r2, r3, r4, z, z2, prT, byT, frT, kBy, min_if]
theorem first_spec {s : Sto} {k : List Nat} {ps : List Pr} (c : Case k ps) : m_first_bounds [.str k, .tup (ps.map Pr.d)] s = .val (.ob (s.length + (k.length + 1))) (tabS s (k.length + 1) (firstT k ps)) := by
  have hl := c.len
  have hL : lenG s [.str k] = .val (.int k.length) s := lenG_str (by omega)
  have hs : sm ((k.length : Int) + 1) = true := sm_nat1 (by omega)
  have hn : ((k.length : Int) + 1).toNat = k.length + 1 := by omega
  have inner : ∀ (i : Int) (δ : Sl) (s' : Sto), δ.length = 12 → δ[10]? = some (some (.int i)) → loopA (nameG 11) yes (iteE (tst (bin eqG (varF 10) (varF 11))) (cF (.int 0)) (cF (.int 99))) δ (upI 0 (k.length + 1)) [] s' = .val ((List.range (k.length + 1)).map fun (j : Nat) => .int (if i = j then 0 else 99)) s' := by
    intro i δ s' h0 h1
    rw [loopA_pure (v := fun d => match d with | .int j => .int (if i = j then 0 else 99) | d => d)]
    · simp [upI, Function.comp_def]
    · intro x hx
      obtain ⟨j, hj⟩ := List.getElem?_of_mem hx
      obtain ⟨rfl, _⟩ := upI_get hj
      refine ⟨_, rfl, rfl, ?_⟩
      have h2 : (δ.set 11 (some (.int (0 + (j : Int)))))[10]? = some (some (.int i)) := by rw [List.getElem?_set_ne (by decide)]; exact h1
      have h3 : (δ.set 11 (some (.int (0 + (j : Int)))))[11]? = some (some (.int (0 + (j : Int)))) := List.getElem?_set_self (by omega)
      have h4 : iteE (tst (bin eqG (varF 10) (varF 11))) (cF (.int 0)) (cF (.int 99)) (δ.set 11 (some (.int (0 + (j : Int))))) s' = .val (if (i == 0 + (j : Int)) = true then .int 0 else .int 99) s' := by
        rw [e_ite, e_tst, e_bin, e_var, h2]
        simp only [O.bind_val, e_var, h3, eqG_def, view_int, dep_int, deq_int, Nat.zero_le, and_self, if_true, e_c]
        split <;> rfl
      rw [h4]
      by_cases e : i = 0 + (j : Int)
      · rw [if_pos (by rw [e]; simp)]
        show _ = O.val (D.int (if i = 0 + (j : Int) then 0 else 99)) s'
        rw [if_pos e]
      · rw [if_neg (by simpa using e)]
        show _ = O.val (D.int (if i = 0 + (j : Int) then 0 else 99)) s'
        rw [if_neg e]
    · simp; omega
  have outer : loopA (nameG 10) yes (compO (rng1F (con (bin addG (varF 2) (cF (.int 1))) (nil))) [11] (nameG 11) (yes) (iteE (tst (bin eqG (varF 10) (varF 11))) (cF (.int 0)) (cF (.int 99)))) [some (.str k), some (.tup (ps.map Pr.d)), some (.int k.length), none, none, none, none, none, none, none, none, none] (upI 0 (k.length + 1)) [] s
      = .val (obsR s.length (k.length + 1)) (s ++ (List.range (k.length + 1)).map (rowO (k.length + 1) zeroT)) := by
    have e1 : (upI 0 (k.length + 1)).map (fun x => SO.lst ((fun d => match d with | .int i => (List.range (k.length + 1)).map (fun (j : Nat) => D.int (if i = j then 0 else 99)) | _ => []) x)) = (List.range (k.length + 1)).map (rowO (k.length + 1) zeroT) := by
      unfold upI
      rw [List.map_map]
      refine List.map_congr_left fun i _ => ?_
      show SO.lst ((List.range (k.length + 1)).map (fun (j : Nat) => D.int (if (0 : Int) + (i : Int) = j then 0 else 99))) = SO.lst ((List.range (k.length + 1)).map fun j => D.int (zeroT i j))
      have e2 : (fun (j : Nat) => D.int (if (0 : Int) + (i : Int) = j then 0 else 99)) = fun j => D.int (zeroT i j) := by
        funext j
        unfold zeroT
        by_cases e : i = j
        · rw [if_pos e, if_pos (by omega)]
        · rw [if_neg e, if_neg (by omega)]
      rw [e2]
    rw [loopA_own (row := fun d => match d with | .int i => (List.range (k.length + 1)).map (fun (j : Nat) => .int (if i = j then 0 else 99)) | _ => []), e1, upI_len, List.nil_append]
    · intro x hx s'
      obtain ⟨i, hi⟩ := List.getElem?_of_mem hx
      obtain ⟨rfl, _⟩ := upI_get hi
      refine ⟨_, rfl, rfl, ?_⟩
      have := inner (0 + (i : Int)) [some (.str k), some (.tup (ps.map Pr.d)), some (.int k.length), none, none, none, none, none, none, none, some (.int (0 + (i : Int))), none] s' rfl rfl
      simp -implicitDefEqProofs [hs, hn, wipeD, this] at this ⊢
      rw [this]
      simp
    · simp; omega
  obtain ⟨δ1, s1, e1, ⟨b4, b5, rfl⟩, rfl⟩ := loop_inv (g := tupG [(nameG 4), (nameG 5)]) (body := l_first_bounds_1) (xs := numbered 0 (signs k))
    (fun i δ s' => (∃ a4 a5, δ = [some (.str k), some (.tup (ps.map Pr.d)), some (.int k.length), some (.ob (s.length + (k.length + 1))), a4, a5, none, none, none, none, none, none]) ∧ s' = tabS s (k.length + 1) (dayT k i))
    (fun i x δ s' hx hI => by
      obtain ⟨⟨a4, a5, rfl⟩, rfl⟩ := hI
      obtain ⟨d, h1, rfl⟩ := num_at hx
      unfold signs at h1
      rw [List.getElem?_map] at h1
      obtain ⟨ch, h2, rfl⟩ := Option.map_eq_some_iff.mp h1
      rw [Nat.zero_add]
      exact ⟨_, _, fb_day h2, ⟨_, _, rfl⟩, rfl⟩)
    (δ := [some (.str k), some (.tup (ps.map Pr.d)), some (.int k.length), some (.ob (s.length + (k.length + 1))), none, none, none, none, none, none, none, none]) (s := tabS s (k.length + 1) (dayT k 0)) ⟨⟨_, _, rfl⟩, rfl⟩
  rw [numbered_len, show (signs k).length = k.length by simp [signs]] at e1
  obtain ⟨δ2, s2, e2, ⟨b6, b7, b8, b9, rfl⟩, rfl⟩ := loop_inv (g := tupG [(nameG 6), (nameG 7), (nameG 8), (nameG 9)]) (body := l_first_bounds_2) (xs := ps.map Pr.d)
    (fun i δ s' => (∃ a6 a7 a8 a9, δ = [some (.str k), some (.tup (ps.map Pr.d)), some (.int k.length), some (.ob (s.length + (k.length + 1))), b4, b5, a6, a7, a8, a9, none, none]) ∧ s' = tabS s (k.length + 1) (prsT (ps.take i) (dayT k k.length)))
    (fun i x δ s' hx hI => by
      obtain ⟨⟨a6, a7, a8, a9, rfl⟩, rfl⟩ := hI
      rw [List.getElem?_map] at hx
      obtain ⟨p, h1, rfl⟩ := Option.map_eq_some_iff.mp hx
      have := fb_pr (s := s) (N := k.length + 1) (T := prsT (ps.take i) (dayT k k.length)) (p := p) (a0 := some (.str k)) (a1 := some (.tup (ps.map Pr.d))) (a2 := some (.int k.length)) (a4 := b4) (a5 := b5) (a6 := a6) (a7 := a7) (a8 := a8) (a9 := a9) (a10 := none) (a11 := none) (c.ok p (List.mem_of_getElem? h1))
      exact ⟨_, _, this, ⟨_, _, _, _, rfl⟩, by rw [prsT_take h1]⟩)
    (δ := [some (.str k), some (.tup (ps.map Pr.d)), some (.int k.length), some (.ob (s.length + (k.length + 1))), b4, b5, none, none, none, none, none, none]) (s := tabS s (k.length + 1) (dayT k k.length)) ⟨⟨_, _, _, _, rfl⟩, by simp [prsT]⟩
  rw [List.length_map, List.take_length] at e2
  have e0 : s ++ ((List.range (k.length + 1)).map (rowO (k.length + 1) zeroT) ++ [.lst (obsR s.length (k.length + 1))]) = tabS s (k.length + 1) (dayT k 0) := rfl
  simp -implicitDefEqProofs [m_first_bounds, fnK, b_first_bounds, N_first_bounds, startD, hL, hs, hn, wipeD, outer, e0, e1, e2, firstT]
/-! ### all_bounds -/
theorem ab_one {s : Sto} {N K I J : Nat} {T : Tb} {a0 a1 a3 a6 a7 a8 : Option D} (hk : K < N) (hi : I < N) (hj : J < N) :
    ∃ a7', turn (nameG 6) l_all_bounds_1 (.int (J : Int)) [a0, a1, some (.ob (s.length + N)), a3, some (.int (K : Int)), some (.int (I : Int)), a6, a7, a8] (tabS s N T)
      = .nx [a0, a1, some (.ob (s.length + N)), a3, some (.int (K : Int)), some (.int (I : Int)), some (.int (J : Int)), a7', a8] (tabS s N (stp K I J T)) := by
  have r1 : ixG (tabS s N T) (.ob (s.length + N)) (.int (I : Int)) = .val (.ob (s.length + I)) (tabS s N T) := ix_top I hi rfl
  have r2 : ixG (tabS s N T) (.ob (s.length + N)) (.int (K : Int)) = .val (.ob (s.length + K)) (tabS s N T) := ix_top K hk rfl
  have r3 : ixG (tabS s N T) (.ob (s.length + I)) (.int (K : Int)) = .val (.int (T I K)) (tabS s N T) := ix_row I K hi hk rfl
  have r4 : ixG (tabS s N T) (.ob (s.length + K)) (.int (J : Int)) = .val (.int (T K J)) (tabS s N T) := ix_row K J hk hj rfl
  have r5 : ixG (tabS s N T) (.ob (s.length + I)) (.int (J : Int)) = .val (.int (T I J)) (tabS s N T) := ix_row I J hi hj rfl
  have q : ∀ a7 : Option D, setI (bin ixG (varF 2) (varF 5)) (varF 6) (.int (T I K + T K J)) [a0, a1, some (.ob (s.length + N)), a3, some (.int (K : Int)), some (.int (I : Int)), some (.int (J : Int)), a7, a8] (tabS s N T) = .val [a0, a1, some (.ob (s.length + N)), a3, some (.int (K : Int)), some (.int (I : Int)), some (.int (J : Int)), a7, a8] (tabS s N (rlx T I J (T I K + T K J))) := fun a7 =>
    set_tab (y := (J : Int)) I J hi hj rfl (by simp only [e_bin, e_var, List.getElem?_cons_succ, List.getElem?_cons_zero, O.bind_val]; exact r1) rfl
  refine ⟨some (.int (T I K + T K J)), ?_⟩
  by_cases h : T I K + T K J < T I J
  · simp -implicitDefEqProofs [-e_setI, -ixG_obD, turn, l_all_bounds_1, r1, r2, r3, r4, r5, q, h, stp]
  · simp -implicitDefEqProofs [-e_setI, -ixG_obD, turn, l_all_bounds_1, r1, r2, r3, r4, r5, q, h, stp]
theorem ab_row {s : Sto} {N K I : Nat} {T : Tb} {a0 a1 a6 a7 a8 : Option D} (hN : N ≤ 1000) (hk : K < N) (hi : I < N) {a5 : Option D} :
    ∃ a6' a7', turn (nameG 5) l_all_bounds_2 (.int (I : Int)) [a0, a1, some (.ob (s.length + N)), some (.int (N : Int)), some (.int (K : Int)), a5, a6, a7, a8] (tabS s N T)
      = .nx [a0, a1, some (.ob (s.length + N)), some (.int (N : Int)), some (.int (K : Int)), some (.int (I : Int)), a6', a7', a8] (tabS s N (rowP K I N T)) := by
  obtain ⟨δ1, s1, e1, ⟨b6, b7, rfl⟩, rfl⟩ := loop_inv (g := nameG 6) (body := l_all_bounds_1) (xs := upI 0 N)
    (fun i δ s' => (∃ a6 a7, δ = [a0, a1, some (.ob (s.length + N)), some (.int (N : Int)), some (.int (K : Int)), some (.int (I : Int)), a6, a7, a8]) ∧ s' = tabS s N (rowP K I i T))
    (fun i x δ s' hx hI => by
      obtain ⟨⟨a6, a7, rfl⟩, rfl⟩ := hI
      obtain ⟨rfl, hi2⟩ := upI_get hx
      rw [Int.zero_add]
      obtain ⟨a7', q⟩ := ab_one (s := s) (T := rowP K I i T) (a0 := a0) (a1 := a1) (a3 := some (.int (N : Int))) (a6 := a6) (a7 := a7) (a8 := a8) hk hi hi2
      exact ⟨_, _, q, ⟨_, _, rfl⟩, rfl⟩)
    (δ := [a0, a1, some (.ob (s.length + N)), some (.int (N : Int)), some (.int (K : Int)), some (.int (I : Int)), a6, a7, a8]) (s := tabS s N T) ⟨⟨_, _, rfl⟩, rfl⟩
  rw [upI_len] at e1
  refine ⟨b6, b7, ?_⟩
  simp -implicitDefEqProofs [turn, l_all_bounds_2, sm_nat (show N ≤ 1000000 by omega), e1]
theorem ab_phase {s : Sto} {N K : Nat} {T : Tb} {a0 a1 a4 a5 a6 a7 a8 : Option D} (hN : N ≤ 1000) (hk : K < N) :
    ∃ a5' a6' a7', turn (nameG 4) l_all_bounds_3 (.int (K : Int)) [a0, a1, some (.ob (s.length + N)), some (.int (N : Int)), a4, a5, a6, a7, a8] (tabS s N T)
      = .nx [a0, a1, some (.ob (s.length + N)), some (.int (N : Int)), some (.int (K : Int)), a5', a6', a7', a8] (tabS s N (phase N K N T)) := by
  obtain ⟨δ1, s1, e1, ⟨b5, b6, b7, rfl⟩, rfl⟩ := loop_inv (g := nameG 5) (body := l_all_bounds_2) (xs := upI 0 N)
    (fun i δ s' => (∃ a5 a6 a7, δ = [a0, a1, some (.ob (s.length + N)), some (.int (N : Int)), some (.int (K : Int)), a5, a6, a7, a8]) ∧ s' = tabS s N (phase N K i T))
    (fun i x δ s' hx hI => by
      obtain ⟨⟨a5, a6, a7, rfl⟩, rfl⟩ := hI
      obtain ⟨rfl, hi2⟩ := upI_get hx
      rw [Int.zero_add]
      obtain ⟨a6', a7', q⟩ := ab_row (s := s) (T := phase N K i T) (a0 := a0) (a1 := a1) (a5 := a5) (a6 := a6) (a7 := a7) (a8 := a8) hN hk hi2
      exact ⟨_, _, q, ⟨_, _, _, rfl⟩, rfl⟩)
    (δ := [a0, a1, some (.ob (s.length + N)), some (.int (N : Int)), some (.int (K : Int)), a5, a6, a7, a8]) (s := tabS s N T) ⟨⟨_, _, _, rfl⟩, rfl⟩
  rw [upI_len] at e1
  refine ⟨b5, b6, b7, ?_⟩
  simp -implicitDefEqProofs [turn, l_all_bounds_3, sm_nat (show N ≤ 1000000 by omega), e1]
theorem mapM_some {α β : Type} {f : α → Option β} {g : α → β} : ∀ {l : List α}, (∀ x ∈ l, f x = some (g x)) → l.mapM f = some (l.map g)
  | [], _ => rfl
  | x :: l, h => by
    rw [List.mapM_cons, h x (by simp), mapM_some (l := l) (fun y hy => h y (by simp [hy]))]; rfl
/-- a table that stands for good -/
def rowD (N : Nat) (T : Tb) (i : Nat) : D := .lst ((List.range N).map fun j => D.int (T i j))
def tabD (N : Nat) (T : Tb) : D := .lst ((List.range N).map (rowD N T))
open Classical in
noncomputable def boundsR (k : List Nat) (ps : List Pr) : D := if Good k ps then tabD (k.length + 1) (allT k ps) else .non
theorem all_spec {s : Sto} {k : List Nat} {ps : List Pr} (c : Case k ps) : m_all_bounds [.str k, .tup (ps.map Pr.d)] s = .val (boundsR k ps) s := by
  have hl := c.len
  have hf := first_spec (s := s) c
  obtain ⟨δ1, s1, e1, ⟨b4, b5, b6, b7, rfl⟩, rfl⟩ := loop_inv (g := nameG 4) (body := l_all_bounds_3) (xs := upI 0 (k.length + 1))
    (fun i δ s' => (∃ a4 a5 a6 a7, δ = [some (.str k), some (.tup (ps.map Pr.d)), some (.ob (s.length + (k.length + 1))), some (.int ((k.length + 1 : Nat) : Int)), a4, a5, a6, a7, none]) ∧ s' = tabS s (k.length + 1) (fw (k.length + 1) i (firstT k ps)))
    (fun i x δ s' hx hI => by
      obtain ⟨⟨a4, a5, a6, a7, rfl⟩, rfl⟩ := hI
      obtain ⟨rfl, hi2⟩ := upI_get hx
      rw [Int.zero_add]
      obtain ⟨a5', a6', a7', q⟩ := ab_phase (s := s) (N := k.length + 1) (T := fw (k.length + 1) i (firstT k ps)) (a0 := some (.str k)) (a1 := some (.tup (ps.map Pr.d))) (a4 := a4) (a5 := a5) (a6 := a6) (a7 := a7) (a8 := none) (by omega) hi2
      exact ⟨_, _, q, ⟨_, _, _, _, rfl⟩, rfl⟩)
    (δ := [some (.str k), some (.tup (ps.map Pr.d)), some (.ob (s.length + (k.length + 1))), some (.int ((k.length + 1 : Nat) : Int)), none, none, none, none, none]) (s := tabS s (k.length + 1) (firstT k ps)) ⟨⟨_, _, _, _, rfl⟩, rfl⟩
  rw [upI_len] at e1
  have comp : ∀ a4 a5 a6 a7, loopC (nameG 8) yes (bin geG (bin ixG (bin ixG (varF 2) (varF 8)) (varF 8)) (cF (.int 0))) [some (.str k), some (.tup (ps.map Pr.d)), some (.ob (s.length + (k.length + 1))), some (.int ((k.length + 1 : Nat) : Int)), a4, a5, a6, a7, none] (upI 0 (k.length + 1)) [] (tabS s (k.length + 1) (allT k ps))
      = .val ((List.range (k.length + 1)).map fun a => .bl (decide (0 ≤ allT k ps a a))) (tabS s (k.length + 1) (allT k ps)) := by
    intro a4 a5 a6 a7
    rw [loopC_pure (p := fun _ => true) (v := fun d => match d with | .int i => .bl (decide (0 ≤ allT k ps i.toNat i.toNat)) | d => d)]
    · rw [List.filter_eq_self.mpr (fun _ _ => rfl)]
      simp [upI, Function.comp_def]
    · intro x hx
      obtain ⟨i, hi⟩ := List.getElem?_of_mem hx
      obtain ⟨rfl, hi2⟩ := upI_get hi
      rw [Int.zero_add]
      refine ⟨_, rfl, rfl, fun _ => ⟨?_, rfl⟩⟩
      have r1 : ixG (tabS s (k.length + 1) (allT k ps)) (.ob (s.length + (k.length + 1))) (.int (i : Int)) = .val (.ob (s.length + i)) (tabS s (k.length + 1) (allT k ps)) := ix_top i hi2 rfl
      have r2 : ixG (tabS s (k.length + 1) (allT k ps)) (.ob (s.length + i)) (.int (i : Int)) = .val (.int (allT k ps i i)) (tabS s (k.length + 1) (allT k ps)) := ix_row i i hi2 hi2 rfl
      simp -implicitDefEqProofs [-ixG_obD, r1, r2]
    · simp; omega
  have hb : blsD ((List.range (k.length + 1)).map fun a => D.bl (decide (0 ≤ allT k ps a a))) = some ((List.range (k.length + 1)).map fun a => decide (0 ≤ allT k ps a a)) := by
    generalize List.range (k.length + 1) = l
    induction l with
    | nil => rfl
    | cons a l ih => simp [blsD, ih]
  have hall : ((List.range (k.length + 1)).map fun a => decide (0 ≤ allT k ps a a)).all id = true ↔ Good k ps := by
    unfold Good
    simp [List.all_eq_true]
  have hch : Chk s (tabS s (k.length + 1) (allT k ps)) := Chk.app
  have htk : (tabS s (k.length + 1) (allT k ps)).take s.length = s := by unfold tabS; simp
  have hz : dfz s.length (tabS s (k.length + 1) (allT k ps)) 3 (.ob (s.length + (k.length + 1))) = some (tabD (k.length + 1) (allT k ps)) := by
    have h1 : ∀ i, i < k.length + 1 → dfz s.length (tabS s (k.length + 1) (allT k ps)) 2 (.ob (s.length + i)) = some (rowD (k.length + 1) (allT k ps) i) := fun i hi => by
      unfold dfz
      simp only [tab_row hi, rowO, if_pos (show s.length ≤ s.length + i by omega)]
      rw [mapM_some (g := fun d => d) (fun x hx => by obtain ⟨j, _, rfl⟩ := List.mem_map.mp hx; rfl)]
      simp [rowD]
    unfold dfz
    simp only [tab_top, if_pos (show s.length ≤ s.length + (k.length + 1) by omega)]
    rw [mapM_some (g := fun d => match d with | .ob j => rowD (k.length + 1) (allT k ps) (j - s.length) | d => d) (fun x hx => by
      unfold obsR at hx
      obtain ⟨i, hi, rfl⟩ := List.mem_map.mp hx
      rw [h1 i (List.mem_range.mp hi)]
      simp)]
    simp [tabD, obsR, Function.comp_def]
  have hi3 : allT k ps = fw (k.length + 1) (k.length + 1) (firstT k ps) := rfl
  rw [← hi3] at e1
  have hlen : lenG (tabS s (k.length + 1) (firstT k ps)) [.ob (s.length + (k.length + 1))] = .val (.int ((k.length + 1 : Nat) : Int)) (tabS s (k.length + 1) (firstT k ps)) := len_tab
  have hs : sm ((k.length + 1 : Nat) : Int) = true := sm_nat (by omega)
  by_cases g : Good k ps
  · have h2 := hall.mpr g
    have h3 : boundsR k ps = tabD (k.length + 1) (allT k ps) := by unfold boundsR; rw [if_pos g]
    have h4 : outF s (.rt (.ob (s.length + (k.length + 1))) (tabS s (k.length + 1) (allT k ps))) = .val (tabD (k.length + 1) (allT k ps)) s := by
      rw [outF_frz (by simp) hch hz, htk]
    have h5 : allG (tabS s (k.length + 1) (allT k ps)) [.lst ((List.range (k.length + 1)).map fun a => D.bl (decide (0 ≤ allT k ps a a)))] = .val (.bl true) (tabS s (k.length + 1) (allT k ps)) := by simp only [allG, view_lst, hb, h2]
    rw [h3]
    unfold m_all_bounds fnF
    simp -implicitDefEqProofs [-ixG_obD, -lenG_obD, -outF_rt, b_all_bounds, N_all_bounds, startD, hf, hlen, hs, e1, wipeD, comp, h5, h4, -Int.natCast_add]
  · have h3 : boundsR k ps = .non := by unfold boundsR; rw [if_neg g]
    have h2 : ((List.range (k.length + 1)).map fun a => decide (0 ≤ allT k ps a a)).all id = false := by
      cases q : ((List.range (k.length + 1)).map fun a => decide (0 ≤ allT k ps a a)).all id with
      | false => rfl
      | true => exact absurd (hall.mp q) g
    have h4 : outF s (.rt .non (tabS s (k.length + 1) (allT k ps))) = .val .non s := by
      rw [outF_rt rfl hch, htk]
    have h5 : allG (tabS s (k.length + 1) (allT k ps)) [.lst ((List.range (k.length + 1)).map fun a => D.bl (decide (0 ≤ allT k ps a a)))] = .val (.bl false) (tabS s (k.length + 1) (allT k ps)) := by simp only [allG, view_lst, hb, h2]
    rw [h3]
    unfold m_all_bounds fnF
    simp -implicitDefEqProofs [-ixG_obD, -lenG_obD, -outF_rt, b_all_bounds, N_all_bounds, startD, hf, hlen, hs, e1, wipeD, comp, h5, h4, -Int.natCast_add]
end Fl
set_option Elab.async false
set_option linter.all false
set_option maxRecDepth 100000
set_option maxHeartbeats 1000000
namespace Fl
open L2
theorem masked_spec {t : Nat} {s : Sto} {r : List Nat} (h : Tap t s) (hl : r.length ≤ 1000) :
    ∃ k s', m_law_masked [.ob t, .str r] s = .val (.str k) s' ∧ Dr t s s' ∧ k.length = r.length ∧ ∀ d : Nat, d < r.length → k[d]? = some 63 ∨ k[d]? = r[d]? := by
  obtain ⟨v, s1, e1, d1, v0, v4⟩ := draw h (show (1 : Int) ≤ 4 by decide) (by decide)
  have T1 := h.dr d1
  obtain ⟨δ', s', e2, f, o, rfl, d2, hf, hk⟩ := loop_inv (g := nameG 4) (body := l_law_masked_1) (xs := r.map fun c => D.str [c])
    (fun i δ s' => ∃ f o, δ = [some (.ob t), some (.str r), some (.int (1 + v)), some (.str f), o] ∧ Dr t s1 s' ∧ f.length = i ∧ ∀ d : Nat, d < i → f[d]? = some 63 ∨ f[d]? = r[d]?)
    (fun i x δ s' hx hI => by
      obtain ⟨f, o, rfl, d, hf, hk⟩ := hI
      rw [List.getElem?_map] at hx
      obtain ⟨ch, hc, rfl⟩ := Option.map_eq_some_iff.mp hx
      have hi : i < r.length := (List.getElem?_eq_some_iff.mp hc).1
      obtain ⟨u, s2, e, d', u0, u1⟩ := draw (many := 1 + v + 1) (T1.dr d) (by omega) (by omega)
      have hb : f.length + 1 ≤ 16000000 := by omega
      have grow : ∀ x : Nat, (x = 63 ∨ some x = r[i]?) → ∀ d : Nat, d < i + 1 → (f ++ [x])[d]? = some 63 ∨ (f ++ [x])[d]? = r[d]? := fun x hx d hd => by
        by_cases q : d < i
        · rw [List.getElem?_append_left (by omega)]; exact hk d q
        · obtain rfl : d = i := by omega
          rw [List.getElem?_append_right (by omega), hf]
          simp only [Nat.sub_self, List.getElem?_cons_zero]
          rcases hx with rfl | hx
          · exact .inl rfl
          · exact .inr hx
      by_cases hu : u = 0
      · refine ⟨_, s2, ?_, f ++ [ch], some (.str [ch]), rfl, d.trans d', by simp [hf], grow ch (.inr hc.symm)⟩
        simp -implicitDefEqProofs [turn, l_law_masked_1, e, hu, addG_str, hb]
      · refine ⟨_, s2, ?_, f ++ [63], some (.str [ch]), rfl, d.trans d', by simp [hf], grow 63 (.inl rfl)⟩
        simp -implicitDefEqProofs [turn, l_law_masked_1, e, hu, addG_str, hb])
    (δ := [some (.ob t), some (.str r), some (.int (1 + v)), some (.str []), none]) (s := s1) ⟨[], none, rfl, T1.refl, rfl, fun d hd => by omega⟩
  rw [List.length_map] at hf hk
  refine ⟨f, s', ?_, d1.trans d2, hf, hk⟩
  simp -implicitDefEqProofs [m_law_masked, fnF, b_law_masked, N_law_masked, startD, e1, e2, (d1.trans d2).take, (d1.trans d2).chk]
theorem masked_kn {k r : List Nat} (hr : Row r) (hl : k.length = r.length) (h : ∀ d : Nat, d < r.length → k[d]? = some 63 ∨ k[d]? = r[d]?) : Kn k := fun c hc => by
  obtain ⟨d, hd⟩ := List.getElem?_of_mem hc
  have := (List.getElem?_eq_some_iff.mp hd).1
  rcases h d (by omega) with q | q
  · rw [hd] at q; cases q; exact .inr (.inr rfl)
  · rw [hd] at q
    rcases hr c (List.mem_of_getElem? q.symm) with z | z
    · exact .inl z
    · exact .inr (.inl z)
theorem dueR_ge {r : List Nat} {lo c : Nat} (h : lo ≤ r.length) : lo ≤ dueR r lo c := by
  by_cases q : dueR r lo c < lo
  · have := (dueR_lt (r := r) (lo := lo) (c := c) (e := lo) (Nat.le_refl _) h).mp q
    rw [Nat.sub_self] at this
    simp [cw] at this
  · omega
theorem dueR_le_len {r : List Nat} {lo c : Nat} : dueR r lo c ≤ r.length ∨ r.length < lo := by
  by_cases h : lo ≤ r.length
  · left
    by_cases q : c < cw r lo (r.length - lo)
    · have := (dueR_lt (r := r) (lo := lo) (c := c) (e := r.length) h (Nat.le_refl _)).mpr q
      omega
    · rw [dueR_none (by omega)]; exact Nat.le_refl _
  · right; omega
theorem promise_spec5 {t : Nat} {s : Sto} {r : List Nat} (h : Tap t s) (hl : r.length ≤ 90) (h1 : 1 ≤ r.length) (hr : Row r) :
    ∃ p s', m_law_promise [.ob t, .str r] s = .val (Pr.d p) s' ∧ Dr t s s' ∧ p.ok r.length ∧ p.c ≤ 5 := by
  have hL : ∀ s, lenG s [.str r] = .val (.int r.length) s := fun s => lenG_str (by omega)
  obtain ⟨v1, s1, e1, d1, a1, b1⟩ := draw (many := r.length) h (by omega) (by omega)
  have T1 := h.dr d1
  obtain ⟨v2, s2, e2, d2, a2, b2⟩ := draw (many := 4) T1 (by omega) (by omega)
  have T2 := T1.dr d2
  have hmin : (if (6 : Int) < (r.length : Int) then (6 : Int) else (r.length : Int)) = min (r.length : Int) 6 := by omega
  obtain ⟨v3, s3, e3, d3, a3, b3⟩ := draw (many := min (r.length : Int) 6) T2 (by omega) (by omega)
  have T3 := T2.dr d3
  obtain ⟨lo, rfl⟩ := Int.eq_ofNat_of_zero_le a1
  obtain ⟨c, rfl⟩ := Int.eq_ofNat_of_zero_le a3
  have hd : ∀ s, m_law_due [.str r, .int ((lo : Int) - 1), .int (1 + (c : Int))] s = .val (.int (dueR r lo c)) s := fun s => by
    rw [Int.add_comm 1 (c : Int)]
    exact law_due_spec (by omega) hr (by omega)
  have hge := dueR_ge (r := r) (lo := lo) (c := c) (by omega)
  have hle : dueR r lo c ≤ r.length := by rcases dueR_le_len (r := r) (lo := lo) (c := c) with q | q <;> omega
  generalize dueR r lo c = due at hd hge hle
  obtain ⟨v4, s4, e4, d4, a4, b4⟩ := draw (many := (r.length : Int) - 1 - ((lo : Int) - 1)) T3 (by omega) (by omega)
  have T4 := T3.dr d4
  obtain ⟨v5, s5, e5, d5, a5, b5⟩ := draw (many := 6) T4 (by omega) (by omega)
  have T5 := T4.dr d5
  have D5 := (((d1.trans d2).trans d3).trans d4).trans d5
  obtain ⟨k, hk, hkk⟩ : ∃ k : List Nat, ixG s2 (.lst [.str [111, 110], .str [111, 110], .str [98, 121], .str [102, 114, 111, 109]]) (.int v2) = .val (.str k) s2 ∧ (k = kOn ∨ k = kBy ∨ k = kFrom) := by
    rcases (by omega : v2 = 0 ∨ v2 = 1 ∨ v2 = 2 ∨ v2 = 3) with rfl | rfl | rfl | rfl
    · exact ⟨kOn, by simp [kOn], .inl rfl⟩
    · exact ⟨kOn, by simp [kOn], .inl rfl⟩
    · exact ⟨kBy, by simp [kBy], .inr (.inl rfl)⟩
    · exact ⟨kFrom, by simp [kFrom], .inr (.inr rfl)⟩
  have z1 : (lo : Int) - 1 + 1 = lo := by omega
  have fin : ∀ (en : Int) (s' : Sto), Dr t s s' → (lo : Int) ≤ en → en < r.length → m_law_promise [.ob t, .str r] s = .val (.tup [.str k, .int ((lo : Int) - 1), .int (1 + (c : Int)), .int en]) s' → ∃ p s', m_law_promise [.ob t, .str r] s = .val (Pr.d p) s' ∧ Dr t s s' ∧ p.ok r.length ∧ p.c ≤ 5 := fun en s' dd q1 q2 e => by
    obtain ⟨e', rfl⟩ := Int.eq_ofNat_of_zero_le (show 0 ≤ en by omega)
    exact ⟨⟨k, lo, c, e'⟩, s', by rw [e, Pr.d, Int.add_comm 1 (c : Int)], dd, ⟨hkk, by show lo ≤ e'; omega, by show e' < r.length; omega, by show c < r.length; omega⟩, by show c ≤ 5; omega⟩
  by_cases hv : 0 < v5
  · rcases hkk with q | q | q
    · by_cases hdu : (due : Int) < r.length
      · refine fin due s5 D5 (by omega) (by omega) ?_
        simp -implicitDefEqProofs [m_law_promise, fnF, b_law_promise, N_law_promise, startD, hL, e1, e2, e3, hmin, hk, hd, e4, e5, hv, z1, q, kOn, hdu, D5.take, D5.chk]
      · refine fin (lo + v4) s5 D5 (by omega) (by omega) ?_
        simp -implicitDefEqProofs [m_law_promise, fnF, b_law_promise, N_law_promise, startD, hL, e1, e2, e3, hmin, hk, hd, e4, e5, hv, z1, q, kOn, hdu, D5.take, D5.chk]
    · by_cases hdu : (due : Int) < r.length
      · obtain ⟨v6, s6, e6, d6, a6, b6⟩ := draw (many := (r.length : Int) - due) T5 (by omega) (by omega)
        refine fin (due + v6) s6 (D5.trans d6) (by omega) (by omega) ?_
        simp -implicitDefEqProofs [m_law_promise, fnF, b_law_promise, N_law_promise, startD, hL, e1, e2, e3, hmin, hk, hd, e4, e5, hv, z1, q, kBy, hdu, e6, (D5.trans d6).take, (D5.trans d6).chk]
      · refine fin (lo + v4) s5 D5 (by omega) (by omega) ?_
        simp -implicitDefEqProofs [m_law_promise, fnF, b_law_promise, N_law_promise, startD, hL, e1, e2, e3, hmin, hk, hd, e4, e5, hv, z1, q, kBy, hdu, D5.take, D5.chk]
    · obtain ⟨v6, s6, e6, d6, a6, b6⟩ := draw (many := min (due : Int) ((r.length : Int) - 1) - ((lo : Int) - 1)) T5 (by omega) (by omega)
      have hmin2 : (if (r.length : Int) - 1 < (due : Int) then (r.length : Int) - 1 else (due : Int)) = min (due : Int) ((r.length : Int) - 1) := by omega
      refine fin (lo + v6) s6 (D5.trans d6) (by omega) (by omega) ?_
      simp -implicitDefEqProofs [m_law_promise, fnF, b_law_promise, N_law_promise, startD, hL, e1, e2, e3, hmin, hmin2, hk, hd, e4, e5, hv, z1, q, kFrom, e6, (D5.trans d6).take, (D5.trans d6).chk]
  · refine fin (lo + v4) s5 D5 (by omega) (by omega) ?_
    simp -implicitDefEqProofs [m_law_promise, fnF, b_law_promise, N_law_promise, startD, hL, e1, e2, e3, hmin, hk, hd, e4, e5, hv, z1, D5.take, D5.chk]
theorem promise_spec {t : Nat} {s : Sto} {r : List Nat} (h : Tap t s) (hl : r.length ≤ 90) (h1 : 1 ≤ r.length) (hr : Row r) :
    ∃ p s', m_law_promise [.ob t, .str r] s = .val (Pr.d p) s' ∧ Dr t s s' ∧ p.ok r.length := by
  obtain ⟨p, s', e, d, ok, _⟩ := promise_spec5 h hl h1 hr
  exact ⟨p, s', e, d, ok⟩
theorem promises_spec5 {t : Nat} {s : Sto} {r : List Nat} {most : Int} (h : Tap t s) (hl : r.length ≤ 90) (h1 : 1 ≤ r.length) (hr : Row r) (hm : 0 ≤ most) (hm2 : most ≤ 1000) :
    ∃ (ps : List Pr) (s' : Sto), m_law_promises [.ob t, .str r, .int most] s = .val (.tup (ps.map Pr.d)) s' ∧ Dr t s s' ∧ (∀ p ∈ ps, p.ok r.length ∧ p.c ≤ 5) ∧ (ps.length : Int) ≤ most := by
  obtain ⟨v, s1, e1, d1, v0, v1⟩ := draw (many := most + 1) h (by omega) (by omega)
  have T1 := h.dr d1
  obtain ⟨δ', s', e2, ps, o, rfl, d2, hp, hl2⟩ := loop_inv (g := nameG 4) (body := l_law_promises_1) (xs := upI 0 v.toNat)
    (fun i δ s' => ∃ (ps : List Pr) (o : Option D), δ = [some (.ob t), some (.str r), some (.int most), some (.tup (ps.map Pr.d)), o] ∧ Dr t s1 s' ∧ (∀ p ∈ ps, p.ok r.length ∧ p.c ≤ 5) ∧ ps.length = i)
    (fun i x δ s' hx hI => by
      obtain ⟨ps, o, rfl, d, hp, hl2⟩ := hI
      obtain ⟨rfl, hi⟩ := upI_get hx
      obtain ⟨p, s2, e, d', ok⟩ := promise_spec5 (T1.dr d) hl h1 hr
      have hb : (ps.map Pr.d).length + [Pr.d p].length ≤ 16000000 := by simp; omega
      refine ⟨_, s2, ?_, ps ++ [p], some (.int (0 + (i : Int))), rfl, d.trans d', fun q hq => ?_, by simp [hl2]⟩
      · simp -implicitDefEqProofs [turn, l_law_promises_1, e, addG_tup hb, show flat (Pr.d p) = true from rfl]
      · rcases List.mem_append.mp hq with z | z
        · exact hp q z
        · rw [List.mem_singleton.mp z]; exact ok)
    (δ := [some (.ob t), some (.str r), some (.int most), some (.tup []), none]) (s := s1) ⟨[], none, rfl, T1.refl, ⟨fun _ z => (by simp at z), rfl⟩⟩
  rw [upI_len] at hl2
  refine ⟨ps, s', ?_, d1.trans d2, hp, by omega⟩
  simp -implicitDefEqProofs [m_law_promises, fnF, b_law_promises, N_law_promises, startD, e1, sm_of (show -(2 ^ 60) ≤ v by omega) (by omega), e2, (d1.trans d2).take, (d1.trans d2).chk]
theorem promises_spec {t : Nat} {s : Sto} {r : List Nat} {most : Int} (h : Tap t s) (hl : r.length ≤ 90) (h1 : 1 ≤ r.length) (hr : Row r) (hm : 0 ≤ most) (hm2 : most ≤ 1000) :
    ∃ (ps : List Pr) (s' : Sto), m_law_promises [.ob t, .str r, .int most] s = .val (.tup (ps.map Pr.d)) s' ∧ Dr t s s' ∧ (∀ p ∈ ps, p.ok r.length) ∧ (ps.length : Int) ≤ most := by
  obtain ⟨ps, s', e, d, ok, hl⟩ := promises_spec5 h hl h1 hr hm hm2
  exact ⟨ps, s', e, d, fun p hp => (ok p hp).1, hl⟩
theorem case_spec {t : Nat} {s : Sto} {days most : Int} (h : Tap t s) (hd1 : 1 ≤ days) (hd : days ≤ 90) (hm : 0 ≤ most) (hm2 : most ≤ 1000) :
    ∃ (k : List Nat) (ps : List Pr) (s' : Sto), m_law_case [.ob t, .int days, .int most] s = .val (.tup [.str k, .tup (ps.map Pr.d)]) s' ∧ Dr t s s' ∧ Case k ps ∧ 1 ≤ k.length ∧ (k.length : Int) ≤ days ∧ (ps.length : Int) ≤ most := by
  obtain ⟨v, s1, e1, d1, v0, v1⟩ := draw (many := days) h (by omega) (by omega)
  have T1 := h.dr d1
  obtain ⟨r, s2, e2, d2, hl, hr⟩ := row_spec (n := 1 + v) T1 (by omega) (by omega)
  have T2 := T1.dr d2
  obtain ⟨k, s3, e3, d3, hk, hkk⟩ := masked_spec (r := r) T2 (by omega)
  have T3 := T2.dr d3
  obtain ⟨ps, s4, e4, d4, hp, hps⟩ := promises_spec (r := r) (most := most) T3 (by omega) (by omega) hr hm hm2
  have D4 := ((d1.trans d2).trans d3).trans d4
  refine ⟨k, ps, s4, ?_, D4, ⟨masked_kn hr hk hkk, by omega, by rw [hk]; exact hp⟩, by omega, by omega, hps⟩
  simp -implicitDefEqProofs [m_law_case, fnF, b_law_case, N_law_case, startD, e1, e2, e3, e4, D4.take, D4.chk]
/-! ### keeps, fits -/
theorem law_keeps_spec {r : List Nat} {p : Pr} {s : Sto} (hl : r.length ≤ 1000) (hr : Row r) (hk : p.k = kOn ∨ p.k = kBy ∨ p.k = kFrom) (hs : p.s ≤ 1000) : m_law_keeps [.str r, p.d] s = .val (.bl (keepsP r p)) s := by
  have h := @law_due_spec r p.s p.c s hl hr hs
  unfold keepsP
  generalize dueR r p.s p.c = due at h
  have main : ∀ k : List Nat, (k = [111, 110] ∨ k = [98, 121] ∨ k = [102, 114, 111, 109]) → m_law_keeps [.str r, .tup [.str k, .int ((p.s : Int) - 1), .int ((p.c : Int) + 1), .int (p.e : Int)]] s = .val (.bl (decide (due = p.e) || (k == [98, 121] && decide (due < p.e)) || (k == [102, 114, 111, 109] && decide (p.e < due)))) s := by
    intro k hk
    rcases Nat.lt_trichotomy due p.e with z | z | z
    · have f1 : ((due : Int) == (p.e : Int)) = false := by simp; omega
      have f2 : ¬ due = p.e := by omega
      have f3 : (due : Int) < p.e := by omega
      have f4 : ¬ (p.e : Int) < due := by omega
      have f5 : ¬ p.e < due := by omega
      rcases hk with rfl | rfl | rfl <;> simp -implicitDefEqProofs [m_law_keeps, fnF, b_law_keeps, N_law_keeps, startD, h, f1, f2, f3, f4, f5, z]
    · have f1 : ((due : Int) == (p.e : Int)) = true := by simp; omega
      rcases hk with rfl | rfl | rfl <;> simp -implicitDefEqProofs [m_law_keeps, fnF, b_law_keeps, N_law_keeps, startD, h, f1, z]
    · have f1 : ((due : Int) == (p.e : Int)) = false := by simp; omega
      have f2 : ¬ due = p.e := by omega
      have f3 : ¬ (due : Int) < p.e := by omega
      have f4 : (p.e : Int) < due := by omega
      have f5 : ¬ due < p.e := by omega
      rcases hk with rfl | rfl | rfl <;> simp -implicitDefEqProofs [m_law_keeps, fnF, b_law_keeps, N_law_keeps, startD, h, f1, f2, f3, f4, f5, z]
  unfold Pr.d
  rw [main p.k hk]
  congr 2
  rcases hk with e | e | e
  · rw [e, if_neg (by decide), if_neg (by decide)]
    by_cases q : due = p.e <;> simp [kOn, q]
  · rw [e, if_pos rfl]
    by_cases q : due ≤ p.e <;> by_cases q2 : due = p.e <;> simp [kBy, q, q2] <;> omega
  · rw [e, if_neg (by decide), if_pos rfl]
    by_cases q : p.e ≤ due <;> by_cases q2 : due = p.e <;> simp [kFrom, q, q2] <;> omega
def dayB (r k : List Nat) : Bool := (List.zip r k).all fun q => q.2 == q.1 || q.2 == 63
def fitsB (k : List Nat) (ps : List Pr) (r : List Nat) : Bool := dayB r k && ps.all (keepsP r)
theorem eq_nil {s : Sto} {ds : List D} (h : deps ds ≤ 59) : eqG s (.lst ds) (.lst []) = .val (.bl ds.isEmpty) s := by
  rw [eqG_def, if_pos (by simp; omega)]
  cases ds <;> simp
theorem ne_nil {s : Sto} {ds : List D} (h : deps ds ≤ 59) : neG s (.lst ds) (.lst []) = .val (.bl (!ds.isEmpty)) s := by
  rw [neG_def, if_pos (by simp; omega)]
  cases ds <;> simp
theorem deps_le {n : Nat} : ∀ {ds : List D}, (∀ d ∈ ds, dep d ≤ n) → deps ds ≤ n
  | [], _ => by simp
  | d :: ds, h => by
    have h1 := h d (by simp)
    have h2 := deps_le (ds := ds) (n := n) fun e he => h e (by simp [he])
    simp; omega
theorem pr_dep (p : Pr) : dep p.d = 1 := by simp [Pr.d]
theorem fits_spec {r k : List Nat} {ps : List Pr} {s : Sto} (hl : r.length ≤ 1000) (hl2 : k.length ≤ 1000) (hr : Row r) (hp : ∀ p ∈ ps, (p.k = kOn ∨ p.k = kBy ∨ p.k = kFrom) ∧ p.s ≤ 1000) (hps : ps.length ≤ 1000) :
    m_law_fits [.str r, .str k, .tup (ps.map Pr.d)] s = .val (.bl (fitsB k ps r)) s := by
  have c1 : loopC (tupG [(nameG 3), (nameG 4)]) (tst (bin ninG (varF 4) (tupE (con (varF 3) (con (cF (.str [63])) (nil)))))) (cF (.int 1)) [some (.str r), some (.str k), some (.tup (ps.map Pr.d)), none, none, none] (pairs (signs r) (signs k)) [] s
      = .val (((List.zip r k).filter fun q => !(q.2 == q.1 || q.2 == 63)).map fun _ => .int 1) s := by
    rw [loopC_pure (p := fun d => match d with | .tup [.str [a], .str [b]] => !(b == a || b == 63) | _ => false) (v := fun _ => .int 1)]
    · have e : pairs (signs r) (signs k) = (List.zip r k).map fun q => .tup [.str [q.1], .str [q.2]] := by
        unfold pairs signs
        rw [List.zipWith_map, List.zip_eq_zipWith, List.map_zipWith]
      rw [e, List.filter_map, List.map_map]
      simp [Function.comp_def]
    · intro z hz
      unfold pairs signs at hz
      rw [List.zipWith_map] at hz
      obtain ⟨i, hi⟩ := List.getElem?_of_mem hz
      rw [List.getElem?_zipWith] at hi
      obtain ⟨a, b, rfl⟩ : ∃ a b : Nat, z = .tup [.str [a], .str [b]] := by
        split at hi
        · exact ⟨_, _, (Option.some.inj hi).symm⟩
        · cases hi
      refine ⟨_, rfl, ?_, fun _ => ⟨rfl, rfl⟩⟩
      have hin : ninG s (.str [b]) (.tup [.str [a], .str [63]]) = .val (.bl (!(b == a || b == 63))) s := by
        have e1 : (a == b) = (b == a) := by rw [Bool.eq_iff_iff]; simp; exact eq_comm
        have e2 : ((63 : Nat) == b) = (b == 63) := by rw [Bool.eq_iff_iff]; simp; exact eq_comm
        simp [ninG, inB, atomD, isIn, e1, e2]
      simp -implicitDefEqProofs [hin]
    · simp [pairs, signs]; omega
  have c2 : loopC (nameG 5) (notT (tst (callF 2 m_law_keeps (con (varF 0) (con (varF 5) (nil)))))) (varF 5) [some (.str r), some (.str k), some (.tup (ps.map Pr.d)), none, none, none] (ps.map Pr.d) [] s
      = .val ((ps.filter fun p => !keepsP r p).map Pr.d) s := by
    have key : ∀ (qs : List Pr) (acc : List D), (∀ q ∈ qs, q ∈ ps) → acc.length + qs.length ≤ 16000000 → loopC (nameG 5) (notT (tst (callF 2 m_law_keeps (con (varF 0) (con (varF 5) (nil)))))) (varF 5) [some (.str r), some (.str k), some (.tup (ps.map Pr.d)), none, none, none] (qs.map Pr.d) acc s = .val (acc ++ (qs.filter fun p => !keepsP r p).map Pr.d) s := by
      intro qs
      induction qs with
      | nil => intro acc _ _; simp
      | cons q qs ih =>
        intro acc hq hl
        simp only [List.length_cons] at hl
        obtain ⟨g1, g2⟩ := hp q (hq q (by simp))
        have hk := @law_keeps_spec r q s (by assumption) hr g1 g2
        rw [List.map_cons, loopC_cons]
        cases hb : keepsP r q with
        | true =>
          rw [hb] at hk
          simp -implicitDefEqProofs [hk, ih acc (fun z hz => hq z (by simp [hz])) (by omega), hb]
        | false =>
          rw [hb] at hk
          have := ih (acc ++ [q.d]) (fun z hz => hq z (by simp [hz])) (by simp; omega)
          simp -implicitDefEqProofs [hk, this, hb, show flat q.d = true from rfl, show acc.length < 16000000 by omega]
    simpa using key ps [] (fun _ h => h) (by simp; omega)
  have n1 : neG s (.lst (((List.zip r k).filter fun q => !(q.2 == q.1 || q.2 == 63)).map fun _ => D.int 1)) (.lst []) = .val (.bl (!dayB r k)) s := by
    rw [ne_nil (by refine Nat.le_trans (deps_le (n := 0) fun d hd => ?_) (by decide); obtain ⟨_, _, rfl⟩ := List.mem_map.mp hd; simp)]
    congr 3
    unfold dayB
    rw [List.isEmpty_map, Bool.eq_iff_iff, List.isEmpty_iff, List.filter_eq_nil_iff, List.all_eq_true]
    constructor
    · intro h q hq
      cases e : (q.2 == q.1 || q.2 == 63) with
      | true => rfl
      | false => exact absurd (by rw [e]; rfl) (h q hq)
    · intro h q hq
      rw [h q hq]; decide
  have n2 : eqG s (.lst ((ps.filter fun p => !keepsP r p).map Pr.d)) (.lst []) = .val (.bl (ps.all (keepsP r))) s := by
    rw [eq_nil (by refine Nat.le_trans (deps_le (n := 1) fun d hd => ?_) (by decide); obtain ⟨p, _, rfl⟩ := List.mem_map.mp hd; rw [pr_dep]; exact Nat.le_refl _)]
    congr 2
    rw [List.isEmpty_map, Bool.eq_iff_iff, List.isEmpty_iff, List.filter_eq_nil_iff, List.all_eq_true]
    simp
  unfold fitsB
  generalize (((List.zip r k).filter fun q => !(q.2 == q.1 || q.2 == 63)).map fun _ => D.int 1) = ds1 at c1 n1
  generalize ((ps.filter fun p => !keepsP r p).map Pr.d) = ds2 at c2 n2
  cases hb : dayB r k with
  | true =>
    rw [hb] at n1
    simp -implicitDefEqProofs [-eqG_def, -neG_def, m_law_fits, fnF, b_law_fits, N_law_fits, startD, wipeD, c1, c2, n1, n2, zipF]
  | false =>
    rw [hb] at n1
    simp -implicitDefEqProofs [-eqG_def, -neG_def, m_law_fits, fnF, b_law_fits, N_law_fits, startD, wipeD, c1, n1, zipF]
theorem fitsB_iff {k r : List Nat} {ps : List Pr} (hl : r.length = k.length) (hr : Row r) : fitsB k ps r = true ↔ Fits k ps r := by
  have hz : dayB r k = true ↔ ∀ d : Nat, d < k.length → k[d]? = some 63 ∨ k[d]? = r[d]? := by
    unfold dayB
    rw [List.all_eq_true]
    constructor
    · intro h d hd
      have h1 : r[d]? = some r[d] := List.getElem?_eq_getElem (by omega)
      have h2 : k[d]? = some k[d] := List.getElem?_eq_getElem hd
      have hm : (r[d], k[d]) ∈ List.zip r k := List.mem_of_getElem? (i := d) (by rw [List.getElem?_zip_eq_some]; exact ⟨h1, h2⟩)
      have := h _ hm
      simp only [Bool.or_eq_true, beq_iff_eq] at this
      rw [h1, h2]
      rcases this with q | q
      · right; rw [q]
      · left; rw [q]
    · rintro h ⟨a, b⟩ hm
      obtain ⟨d, hd⟩ := List.getElem?_of_mem hm
      rw [List.getElem?_zip_eq_some] at hd
      obtain ⟨h1, h2⟩ := hd
      have hd : d < k.length := (List.getElem?_eq_some_iff.mp h2).1
      have := h d hd
      simp only at h1 h2
      rw [h1, h2] at this
      simp only [Bool.or_eq_true, beq_iff_eq]
      rcases this with q | q
      · right; exact Option.some.inj q
      · left; exact Option.some.inj q
  unfold fitsB
  rw [Bool.and_eq_true, hz, List.all_eq_true]
  exact ⟨fun h => ⟨hr, hl, h.1, h.2⟩, fun h => ⟨h.day, h.kp⟩⟩
/-! ### all rows -/
def ext (c : Nat) : List Nat := if c = 63 then [102, 119] else [c]
def growR (found : List (List Nat)) (c : Nat) : List (List Nat) := found.flatMap fun r => (ext c).map fun x => r ++ [x]
def allR : List Nat → List (List Nat)
  | k => k.foldl growR [[]]
def rowsR (k : List Nat) (ps : List Pr) : List (List Nat) := (allR k).filter (fitsB k ps)
theorem allR_snoc (k : List Nat) (c : Nat) : allR (k ++ [c]) = growR (allR k) c := by simp [allR]
theorem take_snoc {α : Type} {l : List α} {i : Nat} {x : α} (h : l[i]? = some x) : l.take (i + 1) = l.take i ++ [x] := by
  rw [List.take_add_one, h]; rfl
theorem allR_mem {k : List Nat} : ∀ (i : Nat), i ≤ k.length → Kn k → ∀ r, r ∈ allR (k.take i) ↔ r.length = i ∧ Row r ∧ ∀ d : Nat, d < i → k[d]? = some 63 ∨ k[d]? = r[d]?
  | 0, _, _, r => by
    simp only [List.take_zero, allR, List.foldl_nil, List.mem_singleton]
    constructor
    · rintro rfl; exact ⟨rfl, ⟨fun c hc => by simp at hc, fun d hd => by omega⟩⟩
    · rintro ⟨h, _⟩; exact List.length_eq_zero_iff.mp h
  | i + 1, hi, hk, r => by
    have ih := allR_mem i (by omega) hk
    have hc : k[i]? = some k[i] := List.getElem?_eq_getElem (by omega)
    have kc := hk k[i] (List.getElem_mem (by omega))
    rw [take_snoc hc, allR_snoc]
    unfold growR
    rw [List.mem_flatMap]
    constructor
    · rintro ⟨q, hq, hm⟩
      obtain ⟨x, hx, rfl⟩ := List.mem_map.mp hm
      obtain ⟨h1, h2, h3⟩ := (ih q).mp hq
      have hx2 : (x = 119 ∨ x = 102) ∧ (k[i] = 63 ∨ k[i] = x) := by
        unfold ext at hx
        split at hx
        · rename_i e
          refine ⟨?_, .inl e⟩
          simp at hx; omega
        · rename_i e
          obtain rfl := List.mem_singleton.mp hx
          refine ⟨?_, .inr rfl⟩
          omega
      refine ⟨by simp [h1], fun c hcm => ?_, fun d hd => ?_⟩
      · rcases List.mem_append.mp hcm with z | z
        · exact h2 c z
        · rw [List.mem_singleton.mp z]; exact hx2.1
      · by_cases e : d < i
        · rw [List.getElem?_append_left (by omega)]; exact h3 d e
        · obtain rfl : d = i := by omega
          rw [List.getElem?_append_right (by omega), h1, hc]
          rcases hx2.2 with z | z
          · left; rw [z]
          · right; simp [z]
    · rintro ⟨h1, h2, h3⟩
      have hlast : r[i]? = some r[i] := List.getElem?_eq_getElem (by omega)
      have hr : r = r.take i ++ [r[i]] := by rw [← take_snoc hlast, ← h1, List.take_length]
      refine ⟨r.take i, (ih _).mpr ⟨by simp; omega, fun c hc => h2 c (List.mem_of_mem_take hc), fun d hd => ?_⟩, List.mem_map.mpr ⟨r[i], ?_, hr.symm⟩⟩
      · rw [List.getElem?_take_of_lt hd]; exact h3 d (by omega)
      · have h4 := h3 i (by omega)
        have h5 := h2 r[i] (List.getElem_mem _)
        rw [hc, hlast] at h4
        unfold ext
        by_cases e : k[i] = 63
        · rw [if_pos e]; simp; omega
        · rw [if_neg e]
          rcases h4 with z | z
          · exact absurd (Option.some.inj z) e
          · rw [Option.some.inj z]; simp
theorem allR_len : ∀ (k : List Nat) (i : Nat), (allR (k.take i)).length ≤ 2 ^ i
  | k, 0 => by simp [allR]
  | k, i + 1 => by
    have ih := allR_len k i
    cases h : k[i]? with
    | none =>
      rw [List.take_add_one, h]
      simp only [Option.toList_none, List.append_nil]
      rw [Nat.pow_succ]; omega
    | some c =>
      rw [take_snoc h, allR_snoc]
      unfold growR
      rw [List.length_flatMap, Nat.pow_succ]
      have key : ∀ l : List (List Nat), (l.map fun r => ((ext c).map fun x => r ++ [x]).length).sum ≤ l.length * 2 := by
        intro l
        induction l with
        | nil => simp
        | cons a l ih =>
          simp only [List.map_cons, List.sum_cons, List.length_map, List.length_cons] at ih ⊢
          have : (ext c).length ≤ 2 := by unfold ext; split <;> simp
          omega
      have := key (allR (k.take i))
      omega
theorem rows_mem {k : List Nat} {ps : List Pr} (hk : Kn k) (r : List Nat) : r ∈ rowsR k ps ↔ Fits k ps r := by
  unfold rowsR
  rw [List.mem_filter]
  have h := allR_mem (k := k) k.length (Nat.le_refl _) hk r
  rw [List.take_length] at h
  rw [h]
  constructor
  · rintro ⟨⟨h1, h2, h3⟩, h4⟩; exact (fitsB_iff h1 h2).mp h4
  · intro f; exact ⟨⟨f.len, f.row, f.day⟩, (fitsB_iff f.len f.row).mpr f⟩
def strsL (rs : List (List Nat)) : List D := rs.map D.str
theorem rows_turn2 {s : Sto} {c : Nat} (hc : c = 119 ∨ c = 102 ∨ c = 63) {r : List Nat} {longer : List (List Nat)} {a0 a1 a2 a5 : Option D} (hr : r.length ≤ 1000) (hb : longer.length ≤ 100000) :
    turn (nameG 5) l_law_rows_1 (.str r) [a0, a1, a2, some (.str [c]), some (.lst (strsL longer)), a5, none] s = .nx [a0, a1, a2, some (.str [c]), some (.lst (strsL (longer ++ (ext c).map fun x => r ++ [x]))), some (.str r), none] s := by
  have i1 : ∀ x : Nat, inG s (.str [c]) (.tup [.str [x], .str [63]]) = .val (.bl (x == c || 63 == c)) s := fun x => by
    simp [inG, inB, atomD, isIn]
  have b1 : r.length + 1 ≤ 16000000 := by omega
  have a1' : ∀ x : Nat, addG s (.str r) (.str [x]) = .val (.str (r ++ [x])) s := fun x => addG_str (by simp; omega)
  have a2' : ∀ l : List D, l.length ≤ 5 → addG s (.lst (strsL longer)) (.lst l) = .val (.lst (strsL longer ++ l)) s := fun l hl => addG_lst (by simp [strsL]; omega)
  rcases hc with rfl | rfl | rfl
  · simp -implicitDefEqProofs [turn, l_law_rows_1, wipeD, loopC_cons, i1, a1', a2', ext, strsL]
    have := a2' [.str (r ++ [119])] (by simp)
    unfold strsL at this
    rw [this]; simp
  · simp -implicitDefEqProofs [turn, l_law_rows_1, wipeD, loopC_cons, i1, a1', a2', ext, strsL]
    have := a2' [.str (r ++ [102])] (by simp)
    unfold strsL at this
    rw [this]; simp
  · simp -implicitDefEqProofs [turn, l_law_rows_1, wipeD, loopC_cons, i1, a1', a2', ext, strsL]
    have := a2' [.str (r ++ [102]), .str (r ++ [119])] (by simp)
    unfold strsL at this
    rw [this]; simp
theorem rows_spec {k : List Nat} {ps : List Pr} {s : Sto} (c : Case k ps) (hl : k.length ≤ 14) (hps : ps.length ≤ 1000) : m_law_rows [.str k, .tup (ps.map Pr.d)] s = .val (.lst (strsL (rowsR k ps))) s := by
  have hlen : ∀ i, i ≤ 14 → (allR (k.take i)).length ≤ 16384 := fun i hi => Nat.le_trans (allR_len k i) (Nat.pow_le_pow_right (by decide) hi)
  have hrl : ∀ i, i ≤ k.length → ∀ r ∈ allR (k.take i), r.length = i := fun i hi r hr => ((allR_mem i hi c.kn r).mp hr).1
  obtain ⟨δ1, s1, e1, ⟨b3, b4, b5, rfl⟩, rfl⟩ := loop_inv (g := nameG 3) (body := l_law_rows_2) (xs := k.map fun c => D.str [c])
    (fun i δ s' => (∃ a3 a4 a5, δ = [some (.str k), some (.tup (ps.map Pr.d)), some (.lst (strsL (allR (k.take i)))), a3, a4, a5, none]) ∧ s = s')
    (fun i x δ s' hx hI => by
      obtain ⟨⟨a3, a4, a5, rfl⟩, rfl⟩ := hI
      rw [List.getElem?_map] at hx
      obtain ⟨ch, h1, rfl⟩ := Option.map_eq_some_iff.mp hx
      have hi : i < k.length := (List.getElem?_eq_some_iff.mp h1).1
      have hch := c.kn ch (List.mem_of_getElem? h1)
      have hlen' : (growR (allR (k.take i)) ch).length ≤ 16384 := by
        have := hlen (i + 1) (by omega)
        rw [take_snoc h1, allR_snoc] at this; exact this
      obtain ⟨δ2, s2, e2, ⟨b5, rfl⟩, rfl⟩ := loop_inv (g := nameG 5) (body := l_law_rows_1) (xs := strsL (allR (k.take i)))
        (fun j δ s' => (∃ a5, δ = [some (.str k), some (.tup (ps.map Pr.d)), some (.lst (strsL (allR (k.take i)))), some (.str [ch]), some (.lst (strsL (growR ((allR (k.take i)).take j) ch))), a5, none]) ∧ s = s')
        (fun j x δ s' hx hI => by
          obtain ⟨⟨a5, rfl⟩, rfl⟩ := hI
          unfold strsL at hx
          rw [List.getElem?_map] at hx
          obtain ⟨r, h2, rfl⟩ := Option.map_eq_some_iff.mp hx
          have hr := hrl i (by omega) r (List.mem_of_getElem? h2)
          have hg : growR ((allR (k.take i)).take (j + 1)) ch = growR ((allR (k.take i)).take j) ch ++ (ext ch).map fun x => r ++ [x] := by
            unfold growR
            rw [take_snoc h2, List.flatMap_append]; simp
          have hb : (growR ((allR (k.take i)).take j) ch).length ≤ 100000 := by
            have : (growR (allR (k.take i)) ch) = growR ((allR (k.take i)).take j) ch ++ growR ((allR (k.take i)).drop j) ch := by
              unfold growR
              rw [← List.flatMap_append, List.take_append_drop]
            rw [this, List.length_append] at hlen'
            omega
          refine ⟨_, _, rows_turn2 hch (by omega) hb, ⟨_, by rw [hg]⟩, rfl⟩)
        (δ := [some (.str k), some (.tup (ps.map Pr.d)), some (.lst (strsL (allR (k.take i)))), some (.str [ch]), some (.lst []), a5, none]) (s := s) ⟨⟨_, rfl⟩, rfl⟩
      rw [show (strsL (allR (k.take i))).length = (allR (k.take i)).length by simp [strsL], List.take_length] at e2
      refine ⟨[some (.str k), some (.tup (ps.map Pr.d)), some (.lst (strsL (growR (allR (k.take i)) ch))), some (.str [ch]), some (.lst (strsL (growR (allR (k.take i)) ch))), b5, none], s, ?_, ⟨_, _, _, by rw [take_snoc h1, allR_snoc]⟩, rfl⟩
      simp -implicitDefEqProofs [turn, l_law_rows_2, e2])
    (δ := [some (.str k), some (.tup (ps.map Pr.d)), some (.lst [.str []]), none, none, none, none]) (s := s) ⟨⟨_, _, _, rfl⟩, rfl⟩
  rw [List.length_map, List.take_length] at e1
  have c1 : loopC (nameG 5) (tst (callF 3 m_law_fits (con (varF 5) (con (varF 0) (con (varF 1) (nil)))))) (varF 5) [some (.str k), some (.tup (ps.map Pr.d)), some (.lst (strsL (allR k))), b3, b4, none, none] (strsL (allR k)) [] s = .val (strsL (rowsR k ps)) s := by
    have hm := hrl k.length (Nat.le_refl _)
    rw [List.take_length] at hm
    rw [loopC_pure (p := fun d => match d with | .str r => fitsB k ps r | _ => false) (v := fun d => d)]
    · unfold strsL rowsR
      rw [List.filter_map]
      simp [Function.comp_def]
    · intro z hz
      unfold strsL at hz
      obtain ⟨r, hr, rfl⟩ := List.mem_map.mp hz
      have hmr := (allR_mem (k := k) k.length (Nat.le_refl _) c.kn r).mp (by rw [List.take_length]; exact hr)
      refine ⟨_, rfl, ?_, fun _ => ⟨rfl, rfl⟩⟩
      have hf := @fits_spec r k ps s (by omega) (by omega) hmr.2.1 (fun p hp => ⟨(c.ok p hp).kd, by have := (c.ok p hp).se; have := (c.ok p hp).en; omega⟩) hps
      simp -implicitDefEqProofs [hf]
    · have := hlen k.length (by omega)
      rw [List.take_length] at this
      simp [strsL]; omega
  simp -implicitDefEqProofs [m_law_rows, fnF, b_law_rows, N_law_rows, startD, e1, wipeD, c1]
end Fl
set_option Elab.async false
set_option linter.all false
set_option maxRecDepth 100000
set_option maxHeartbeats 1000000
namespace Fl
open L2
theorem ixG_tabD {s : Sto} {N : Nat} {T : Tb} {x : Int} (i : Nat) (h : i < N) (hx : x = i) : ixG s (tabD N T) (.int x) = .val (rowD N T i) s := by
  subst hx
  exact ixG_lst (atI_nat (by rw [List.getElem?_map, List.getElem?_range h]; rfl))
theorem ixG_rowD {s : Sto} {N : Nat} {T : Tb} {i : Nat} {x : Int} (j : Nat) (h : j < N) (hx : x = j) : ixG s (rowD N T i) (.int x) = .val (.int (T i j)) s := by
  subst hx
  exact ixG_lst (atI_nat (by rw [List.getElem?_map, List.getElem?_range h]; rfl))
theorem cut_take {α : Type} {ds : List α} {i : Nat} (h : i ≤ ds.length) : cutD ds none (some (i : Int)) = ds.take i := by
  unfold cutD
  rw [HT.sIx_none, HT.sIx_nat, Nat.min_eq_left h, List.drop_zero, Nat.sub_zero]
theorem cut_drop {α : Type} {ds : List α} {i : Nat} {x : Int} (hx : x = i) : cutD ds (some x) none = ds.drop i := by
  subst hx
  unfold cutD
  rw [HT.sIx_none, HT.sIx_nat]
  by_cases h : i ≤ ds.length
  · rw [Nat.min_eq_left h, List.take_of_length_le (by simp)]
  · rw [Nat.min_eq_right (by omega), Nat.sub_self, List.take_zero, List.drop_of_length_le (by omega)]
@[simp] theorem e_slF {g : Sto → D → Option Int → Option Int → O D} {fa : EF} {lo hi : PF} {δ : Sl} {s : Sto} : slF g fa lo hi δ s = (fa δ s).bind fun x s1 => (lo δ s1).bind fun l s2 => (hi δ s2).bind fun u s3 => g s3 x l u := rfl
@[simp] theorem e_noP {δ : Sl} {s : Sto} : noP δ s = .val none s := rfl
@[simp] theorem e_parF {f : EF} {δ : Sl} {s : Sto} : parF f δ s = (f δ s).bind fun d s1 => match d with
  | .int i => .val (some i) s1
  | _ => .stuck := rfl
@[simp] theorem slG_tup {s : Sto} {ds : List D} {lo hi : Option Int} : slG s (.tup ds) lo hi = .val (.tup (cutD ds lo hi)) s := rfl
@[simp] theorem slG_lst {s : Sto} {ds : List D} {lo hi : Option Int} : slG s (.lst ds) lo hi = .val (.lst (cutD ds lo hi)) s := rfl
theorem loopA_filter {g : GF} {t : BF} {e : EF} {δ : Sl} {s : Sto} (p : D → Bool) (v : D → D) : ∀ (xs acc : List D), (∀ x ∈ xs, ∃ δ1, g x δ s = .val δ1 s ∧ t δ1 s = .val (p x) s ∧ (p x = true → e δ1 s = .val (v x) s)) → acc.length + xs.length ≤ 16000000 →
    loopA g t e δ xs acc s = .val (acc ++ (xs.filter p).map v) s
  | [], acc, _, _ => by simp
  | x :: xs, acc, h, hl => by
    obtain ⟨δ1, h1, h2, h3⟩ := h x (by simp)
    have ih := fun acc' hl' => loopA_filter p v xs acc' (fun y hy => h y (by simp [hy])) hl'
    simp only [List.length_cons] at hl
    rw [loopA_cons, h1, noX_val, O.bind_val, h2, quiet_val, O.bind_val]
    cases hp : p x with
    | false =>
      rw [if_neg (by decide), ih _ (by omega)]
      simp [hp]
    | true =>
      rw [if_pos rfl, h3 hp, quiet_val, O.bind_val, if_pos (by omega), ih _ (by simp; omega)]
      simp [hp]
def natsD (xs : List Nat) : List D := xs.map fun (i : Nat) => D.int (i : Int)
theorem numbered_eq (ds : List D) : numbered 0 ds = (List.range ds.length).map fun i => .tup [.int (i : Int), ds.getD i .non] := by
  apply List.ext_getElem?
  intro i
  rw [numbered_get, List.getElem?_map, Nat.zero_add]
  by_cases h : i < ds.length
  · rw [List.getElem?_range h, List.getElem?_eq_getElem h]
    simp [List.getD, List.getElem?_eq_getElem h]
  · rw [List.getElem?_eq_none (by omega), List.getElem?_eq_none (by simp; omega)]; rfl
theorem Tap.lt {t : Nat} {s : Sto} (h : Tap t s) : t < s.length := by
  obtain ⟨p, _, e⟩ := h
  exact (List.getElem?_eq_some_iff.mp e).1
theorem Tap.app {t : Nat} {s j : Sto} (h : Tap t s) : Tap t (s ++ j) := by
  obtain ⟨p, ok, e⟩ := h
  exact ⟨p, ok, by rw [List.getElem?_append_left (List.getElem?_eq_some_iff.mp e).1]; exact e⟩
theorem Tap.set {t d : Nat} {s : Sto} {o : SO} (h : Tap t s) (ne : d ≠ t) : Tap t (s.set d o) := by
  obtain ⟨p, ok, e⟩ := h
  exact ⟨p, ok, by rw [List.getElem?_set_ne ne]; exact e⟩
theorem bad_comp {t : BF} {δ : Sl} {s : Sto} {rows : List (List Nat)} {f : List Nat → Bool} {i : Nat} (hi : i < δ.length) (hl : rows.length ≤ 16000000) (ht : ∀ r ∈ rows, t (δ.set i (some (.str r))) s = .val (f r) s) :
    loopC (nameG i) t (varF i) δ (strsL rows) [] s = .val (strsL (rows.filter f)) s := by
  rw [loopC_pure (p := fun d => match d with | .str r => f r | _ => false) (v := fun d => d)]
  · unfold strsL
    rw [List.filter_map]
    simp [Function.comp_def]
  · intro z hz
    unfold strsL at hz
    obtain ⟨r, hr, rfl⟩ := List.mem_map.mp hz
    refine ⟨_, rfl, ht r hr, fun _ => ⟨?_, rfl⟩⟩
    rw [e_var, List.getElem?_set_self hi]
  · simp [strsL]; omega
theorem strs_deps (rows : List (List Nat)) : deps (strsL rows) ≤ 0 := deps_le fun d hd => by
  obtain ⟨r, _, rfl⟩ := List.mem_map.mp hd; simp
theorem rows_len {k : List Nat} {ps : List Pr} (hl : k.length ≤ 14) : (rowsR k ps).length ≤ 16384 := by
  have h1 := allR_len k k.length
  rw [List.take_length] at h1
  exact Nat.le_trans (List.length_filter_le _ _) (Nat.le_trans h1 (Nat.pow_le_pow_right (by decide) hl))
@[simp] theorem e_meB {t : Sto → D → Bool} {g : Sto → D → List D → O D} {fa : EF} {fr : AF} {δ : Sl} {s : Sto} : meB' t g fa fr δ s = (fa δ s).bind fun x s1 => if t s1 x = true then (fr δ s1).bind fun xs s2 => g s2 x xs else .stuck := rfl
theorem app_at {s : Sto} {k : Nat} {ds : List D} {d : D} (h : s[k]? = some (.lst ds)) (hl : ds.length < 16000000) : isOwn s (.ob k) = true ∧ appG s (.ob k) [d] = .val .non (s.set k (.lst (ds ++ [d]))) := by
  constructor
  · simp only [isOwn, h]
  · simp only [appG, h, if_pos hl]
theorem okDs_map {α : Type} {f : α → D} (h : ∀ a, okD (f a) = true) : ∀ l : List α, okDs (l.map f) = true
  | [] => by simp [okDs]
  | a :: l => by simp [okDs, h a, okDs_map h l]
theorem flats_map {α : Type} {f : α → D} (h : ∀ a, flat (f a) = true) : ∀ l : List α, flats (l.map f) = true
  | [] => rfl
  | a :: l => by simp [h a, flats_map h l]
theorem nats_ok (xs : List Nat) (h : xs.length ≤ 1000) : okD (.lst (natsD xs)) = true := by
  rw [okD, Bool.and_eq_true, decide_eq_true_eq]
  exact ⟨by simp [natsD]; omega, okDs_map (fun _ => by simp [okD]) xs⟩
theorem nats_dep (xs : List Nat) : deps (natsD xs) ≤ 0 := deps_le fun d hd => by
  obtain ⟨i, _, rfl⟩ := List.mem_map.mp hd; simp
theorem nats_flat (xs : List Nat) : flats (natsD xs) = true := flats_map (fun _ => rfl) xs
end Fl
set_option Elab.async false
set_option linter.all false
set_option maxRecDepth 100000
set_option maxHeartbeats 1000000
namespace Fl
open L2
noncomputable def followsR (k : List Nat) (ps : List Pr) (p : Pr) : Bool := @decide (∀ r, Fits k ps r → keepsP r p = true) (Classical.propDecidable _)
theorem follows_iff {k : List Nat} {ps : List Pr} {p : Pr} : followsR k ps p = true ↔ ∀ r, Fits k ps r → keepsP r p = true := by
  unfold followsR; exact @decide_eq_true_iff _ (Classical.propDecidable _)
theorem early_iff {k : List Nat} {ps : List Pr} {p : Pr} (c : Case k ps) (g : Good k ps) (ok : p.ok k.length) : (p.c : Int) + 1 ≤ -allT k ps (p.e + 1) p.s ↔ ∀ r, Fits k ps r → Pn r p.s - Pn r (p.e + 1) ≤ -((p.c : Int) + 1) := by
  have hse := ok.se
  have hen := ok.en
  constructor
  · intro h r f
    have := f.sat c (p.e + 1) p.s (by omega) (by omega)
    omega
  · intro h
    have h1 := (g.closed c).tri p.s (p.e + 1) p.s (by omega) (by omega) (by omega)
    have h2 := (g.closed c).dia p.s (by omega)
    obtain ⟨r, f, q⟩ := g.meet c (i := p.s) (j := p.e + 1) (v := -allT k ps (p.e + 1) p.s) (by omega) (by omega) (by omega) (by omega)
    have := h r f
    unfold Pn at this
    omega
theorem late_iff {k : List Nat} {ps : List Pr} {p : Pr} (c : Case k ps) (g : Good k ps) (ok : p.ok k.length) : allT k ps p.s p.e < (p.c : Int) + 1 ↔ ∀ r, Fits k ps r → Pn r p.e - Pn r p.s ≤ p.c := by
  have hse := ok.se
  have hen := ok.en
  constructor
  · intro h r f
    have := f.sat c p.s p.e (by omega) (by omega)
    omega
  · intro h
    have h1 := (g.closed c).tri p.s p.e p.s (by omega) (by omega) (by omega)
    have h2 := (g.closed c).dia p.s (by omega)
    obtain ⟨r, f, q⟩ := g.meet c (i := p.s) (j := p.e) (v := allT k ps p.s p.e) (by omega) (by omega) (by omega) (by omega)
    have := h r f
    unfold Pn at this
    omega
theorem follows_spec {s : Sto} {k : List Nat} {ps : List Pr} {p : Pr} (c : Case k ps) (ok : p.ok k.length) : m_follows [.str k, .tup (ps.map Pr.d), p.d] s = .val (.bl (followsR k ps p)) s := by
  have ha := all_spec (s := s) c
  have hse := ok.se
  have hen := ok.en
  by_cases g : Good k ps
  · have hb : boundsR k ps = tabD (k.length + 1) (allT k ps) := by unfold boundsR; rw [if_pos g]
    rw [hb] at ha
    have he := early_iff c g ok
    have hl := late_iff c g ok
    have r1 : ∀ s, ixG s (tabD (k.length + 1) (allT k ps)) (.int ((p.e : Int) + 1)) = .val (rowD (k.length + 1) (allT k ps) (p.e + 1)) s := fun s => ixG_tabD (p.e + 1) (by omega) (by omega)
    have r2 : ∀ s, ixG s (rowD (k.length + 1) (allT k ps) (p.e + 1)) (.int (p.s : Int)) = .val (.int (allT k ps (p.e + 1) p.s)) s := fun s => ixG_rowD p.s (by omega) rfl
    have r3 : ∀ s, ixG s (tabD (k.length + 1) (allT k ps)) (.int (p.s : Int)) = .val (rowD (k.length + 1) (allT k ps) p.s) s := fun s => ixG_tabD p.s (by omega) rfl
    have r4 : ∀ s, ixG s (rowD (k.length + 1) (allT k ps) p.s) (.int (p.e : Int)) = .val (.int (allT k ps p.s p.e)) s := fun s => ixG_rowD p.e (by omega) rfl
    have hn : isNG s (tabD (k.length + 1) (allT k ps)) .non = .val (.bl false) s := rfl
    have z1 : (p.s : Int) - 1 + 1 = p.s := by omega
    generalize allT k ps (p.e + 1) p.s = x at he r2
    generalize allT k ps p.s p.e = y at hl r4
    generalize tabD (k.length + 1) (allT k ps) = tb at ha r1 r3 hn
    generalize rowD (k.length + 1) (allT k ps) (p.e + 1) = ra at r1 r2
    generalize rowD (k.length + 1) (allT k ps) p.s = rb at r3 r4
    have kf : ∀ r, Fits k ps r → (keepsP r p = true ↔ Okp (Pn r) p) := fun r f => keeps_okp f.len ok
    have ne1 : kBy ≠ kFrom := by decide
    have ne2 : kOn ≠ kFrom := by decide
    have ne3 : kOn ≠ kBy := by decide
    rcases ok.kd with q | q | q
    · have hfr : followsR k ps p = (decide ((p.c : Int) + 1 ≤ -x) && decide (y < (p.c : Int) + 1)) := by
        rw [Bool.eq_iff_iff, follows_iff, Bool.and_eq_true, decide_eq_true_eq, decide_eq_true_eq, he, hl]
        constructor
        · intro h
          exact ⟨fun r f => (((kf r f).mp (h r f)).1 (by rw [q]; exact ne2)), fun r f => (((kf r f).mp (h r f)).2 (by rw [q]; exact ne3))⟩
        · rintro ⟨h1, h2⟩ r f
          exact (kf r f).mpr ⟨fun _ => h1 r f, fun _ => h2 r f⟩
      rw [hfr]
      by_cases b1 : (p.c : Int) + 1 ≤ -x <;> by_cases b2 : y < (p.c : Int) + 1 <;>
        simp -implicitDefEqProofs [m_follows, fnF, b_follows, N_follows, startD, ha, hn, Pr.d, q, kOn, r1, r2, r3, r4, z1, b1, b2]
    · have hfr : followsR k ps p = decide ((p.c : Int) + 1 ≤ -x) := by
        rw [Bool.eq_iff_iff, follows_iff, decide_eq_true_eq, he]
        constructor
        · intro h r f
          exact ((kf r f).mp (h r f)).1 (by rw [q]; exact ne1)
        · intro h1 r f
          exact (kf r f).mpr ⟨fun _ => h1 r f, fun z => absurd q z⟩
      rw [hfr]
      by_cases b1 : (p.c : Int) + 1 ≤ -x <;> by_cases b2 : y < (p.c : Int) + 1 <;>
        simp -implicitDefEqProofs [m_follows, fnF, b_follows, N_follows, startD, ha, hn, Pr.d, q, kBy, r1, r2, r3, r4, z1, b1, b2]
    · have hfr : followsR k ps p = decide (y < (p.c : Int) + 1) := by
        rw [Bool.eq_iff_iff, follows_iff, decide_eq_true_eq, hl]
        constructor
        · intro h r f
          exact ((kf r f).mp (h r f)).2 (by rw [q]; exact Ne.symm ne1)
        · intro h1 r f
          exact (kf r f).mpr ⟨fun z => absurd q z, fun _ => h1 r f⟩
      rw [hfr]
      by_cases b1 : (p.c : Int) + 1 ≤ -x <;> by_cases b2 : y < (p.c : Int) + 1 <;>
        simp -implicitDefEqProofs [m_follows, fnF, b_follows, N_follows, startD, ha, hn, Pr.d, q, kFrom, r1, r2, r3, r4, z1, b1, b2]
  · have hb : boundsR k ps = .non := by unfold boundsR; rw [if_neg g]
    rw [hb] at ha
    have hfr : followsR k ps p = true := follows_iff.mpr fun r f => absurd (f.good c) g
    rw [hfr]
    simp -implicitDefEqProofs [m_follows, fnF, b_follows, N_follows, startD, ha]
/-! ### without, needless -/
def wo {α : Type} (ds : List α) (i : Nat) : List α := ds.take i ++ ds.drop (i + 1)
theorem wo_map {α β : Type} (f : α → β) (ds : List α) (i : Nat) : (wo ds i).map f = wo (ds.map f) i := by simp [wo]
theorem wo_mem {α : Type} {ds : List α} {i : Nat} {x : α} (h : x ∈ wo ds i) : x ∈ ds := by
  unfold wo at h
  rcases List.mem_append.mp h with q | q
  · exact List.mem_of_mem_take q
  · exact List.mem_of_mem_drop q
theorem wo_len {α : Type} (ds : List α) (i : Nat) : (wo ds i).length ≤ ds.length := by simp [wo]; omega
theorem wo_eval {s : Sto} {ds : List D} {i : Nat} (h : i ≤ ds.length) (hl : ds.length ≤ 1000) : addG s (.tup (ds.take i)) (.tup (ds.drop (i + 1))) = .val (.tup (wo ds i)) s := addG_tup (by simp; omega)
theorem without_spec {s : Sto} {ds : List D} {i : Nat} (h : i < ds.length) (hl : ds.length ≤ 1000) : m_without [.tup ds, .int (i : Int)] s = .val (.tup (wo ds i)) s := by
  simp -implicitDefEqProofs [m_without, fnF, b_without, N_without, startD, cut_take (show i ≤ ds.length by omega), cut_drop (x := (i : Int) + 1) (i := i + 1) (ds := ds) (by omega), wo_eval (show i ≤ ds.length by omega) hl]
theorem Case.wo {k : List Nat} {ps : List Pr} (c : Case k ps) (i : Nat) : Case k (wo ps i) := ⟨c.kn, c.len, fun p hp => c.ok p (wo_mem hp)⟩
noncomputable def needR (k : List Nat) (ps : List Pr) : List Nat := (List.range ps.length).filter fun i => match ps[i]? with
  | some p => followsR k (wo ps i) p
  | none => false
theorem needless_spec {s : Sto} {k : List Nat} {ps : List Pr} (c : Case k ps) (hps : ps.length ≤ 1000) : m_needless [.str k, .tup (ps.map Pr.d)] s = .val (.ob s.length) (s ++ [.lst (natsD (needR k ps))]) := by
  have comp : loopA (tupG [(nameG 2), (nameG 3)]) (tst (callF 3 m_follows (con (varF 0) (con (callF 2 m_without (con (varF 1) (con (varF 2) (nil)))) (con (varF 3) (nil)))))) (varF 2) [some (.str k), some (.tup (ps.map Pr.d)), none, none] (numbered 0 (ps.map Pr.d)) [] s = .val (natsD (needR k ps)) s := by
    rw [loopA_filter (p := fun d => match d with
        | .tup [.int i, _] => (match ps[i.toNat]? with
          | some p => followsR k (wo ps i.toNat) p
          | none => false)
        | _ => false) (v := fun d => match d with | .tup [.int i, _] => .int i | d => d)]
    · rw [numbered_eq, List.filter_map, List.map_map, List.length_map]
      simp [natsD, needR, Function.comp_def]
    · intro z hz
      obtain ⟨i, hi⟩ := List.getElem?_of_mem hz
      obtain ⟨d, h1, rfl⟩ := num_at hi
      rw [List.getElem?_map] at h1
      obtain ⟨p, h2, rfl⟩ := Option.map_eq_some_iff.mp h1
      have hip : i < ps.length := (List.getElem?_eq_some_iff.mp h2).1
      rw [Nat.zero_add]
      refine ⟨_, rfl, ?_, fun _ => rfl⟩
      have hw := without_spec (s := s) (ds := ps.map Pr.d) (i := i) (by simpa using hip) (by simpa using hps)
      rw [← wo_map] at hw
      have hf := follows_spec (s := s) (c.wo i) (c.ok p (List.mem_of_getElem? h2))
      have e : (i : Int).toNat = i := by omega
      simp only [e, h2]
      simp -implicitDefEqProofs [hw, hf]
    · rw [numbered_len]; simp; omega
  simp -implicitDefEqProofs [m_needless, fnK, b_needless, N_needless, startD, wipeD, comp]
end Fl
set_option Elab.async false
set_option linter.all false
set_option maxRecDepth 100000
set_option maxHeartbeats 1000000
namespace Fl
open L2
theorem isnt_tabD {s : Sto} {N : Nat} {T : Tb} : isntG s (tabD N T) .non = .val (.bl true) s := rfl
theorem is_tabD {s : Sto} {N : Nat} {T : Tb} : isNG s (tabD N T) .non = .val (.bl false) s := rfl
theorem flat_tabD {N : Nat} {T : Tb} : flat (tabD N T) = true := rfl
theorem boundsR_good {k : List Nat} {ps : List Pr} (g : Good k ps) : boundsR k ps = tabD (k.length + 1) (allT k ps) := by unfold boundsR; rw [if_pos g]
theorem boundsR_bad {k : List Nat} {ps : List Pr} (g : ¬ Good k ps) : boundsR k ps = .non := by unfold boundsR; rw [if_neg g]
noncomputable def goodB (k : List Nat) (ps : List Pr) : Bool := @decide (Good k ps) (Classical.propDecidable _)
theorem goodB_iff {k : List Nat} {ps : List Pr} : goodB k ps = true ↔ Good k ps := by unfold goodB; exact @decide_eq_true_iff _ (Classical.propDecidable _)
theorem possible_spec {s : Sto} {k : List Nat} {ps : List Pr} (c : Case k ps) : m_is_possible [.str k, .tup (ps.map Pr.d)] s = .val (.bl (goodB k ps)) s := by
  have ha := all_spec (s := s) c
  by_cases g : Good k ps
  · rw [boundsR_good g] at ha
    rw [goodB_iff.mpr g]
    have h := @isnt_tabD s (k.length + 1) (allT k ps)
    generalize tabD (k.length + 1) (allT k ps) = tb at ha h
    simp -implicitDefEqProofs [m_is_possible, fnF, b_is_possible, N_is_possible, startD, ha, h]
  · rw [boundsR_bad g] at ha
    have : goodB k ps = false := by
      cases q : goodB k ps with
      | false => rfl
      | true => exact absurd (goodB_iff.mp q) g
    rw [this]
    simp -implicitDefEqProofs [m_is_possible, fnF, b_is_possible, N_is_possible, startD, ha]
theorem range_spec {s : Sto} {N : Nat} {T : Tb} {i j : Nat} (hi : i < N) (hj : j + 1 < N) : m_range_of [tabD N T, .int (i : Int), .int (j : Int)] s = .val (.tup [.int (-T (j + 1) i), .int (T i (j + 1))]) s := by
  have r1 : ∀ s, ixG s (tabD N T) (.int ((j : Int) + 1)) = .val (rowD N T (j + 1)) s := fun s => ixG_tabD (j + 1) hj (by omega)
  have r2 : ∀ s, ixG s (rowD N T (j + 1)) (.int (i : Int)) = .val (.int (T (j + 1) i)) s := fun s => ixG_rowD i hi rfl
  have r3 : ∀ s, ixG s (tabD N T) (.int (i : Int)) = .val (rowD N T i) s := fun s => ixG_tabD i hi rfl
  have r4 : ∀ s, ixG s (rowD N T i) (.int ((j : Int) + 1)) = .val (.int (T i (j + 1))) s := fun s => ixG_rowD (j + 1) hj (by omega)
  generalize tabD N T = tb at *
  generalize rowD N T (j + 1) = ra at *
  generalize rowD N T i = rb at *
  simp -implicitDefEqProofs [m_range_of, fnF, b_range_of, N_range_of, startD, r1, r2, r3, r4]
noncomputable def rangeR (k : List Nat) (ps : List Pr) (i j : Nat) : D := if goodB k ps = true then .tup [.int (-allT k ps (j + 1) i), .int (allT k ps i (j + 1))] else .non
theorem number_spec {s : Sto} {k : List Nat} {ps : List Pr} {i j : Nat} (c : Case k ps) (hi : i ≤ k.length) (hj : j < k.length) : m_number_range [.str k, .tup (ps.map Pr.d), .int (i : Int), .int (j : Int)] s = .val (rangeR k ps i j) s := by
  have ha := all_spec (s := s) c
  unfold rangeR
  by_cases g : Good k ps
  · rw [boundsR_good g] at ha
    rw [if_pos (goodB_iff.mpr g)]
    have h := @isnt_tabD s (k.length + 1) (allT k ps)
    have hr := range_spec (s := s) (N := k.length + 1) (T := allT k ps) (i := i) (j := j) (by omega) (by omega)
    generalize tabD (k.length + 1) (allT k ps) = tb at ha h hr
    simp -implicitDefEqProofs [m_number_range, fnF, b_number_range, N_number_range, startD, ha, h, hr]
  · rw [boundsR_bad g] at ha
    rw [if_neg (fun z => g (goodB_iff.mp z))]
    simp -implicitDefEqProofs [m_number_range, fnF, b_number_range, N_number_range, startD, ha]
end Fl
set_option Elab.async false
set_option linter.all false
set_option maxRecDepth 100000
set_option maxHeartbeats 1000000
namespace Fl
open L2
noncomputable def stR (k : List Nat) (ps : List Pr) (d : Nat) : Nat := if -allT k ps (d + 1) d < allT k ps d (d + 1) then 63 else if -allT k ps (d + 1) d = 0 then 102 else 119
noncomputable def statesR (k : List Nat) (ps : List Pr) : List Nat := (List.range k.length).map (stR k ps)
theorem day_le {k : List Nat} {ps : List Pr} (c : Case k ps) (g : Good k ps) {d : Nat} (hd : d < k.length) : 0 ≤ -allT k ps (d + 1) d ∧ -allT k ps (d + 1) d ≤ allT k ps d (d + 1) ∧ allT k ps d (d + 1) ≤ 1 := by
  obtain ⟨r, f⟩ := (good_iff c).mp g
  have cl := g.closed c
  have h1 := cl.tri d (d + 1) d (by omega) (by omega) (by omega)
  have h2 := cl.dia d (by omega)
  refine ⟨?_, by omega, ?_⟩
  · obtain ⟨r, f, q⟩ := g.meet c (i := d) (j := d + 1) (v := -allT k ps (d + 1) d) (by omega) (by omega) (by omega) (by omega)
    have := pc_mono r (show d ≤ d + 1 by omega)
    omega
  · obtain ⟨r, f, q⟩ := g.meet c (i := d) (j := d + 1) (v := allT k ps d (d + 1)) (by omega) (by omega) (by omega) (by omega)
    have := pc_step r d
    omega
theorem chars_strsD : ∀ l : List Nat, strsD (l.map fun c => D.str [c]) = some (l.map fun c => [c])
  | [] => rfl
  | c :: l => by simp [strsD, chars_strsD l]
theorem chars_flat : ∀ l : List Nat, (l.map fun c => [c]).flatten = l
  | [] => rfl
  | c :: l => by simp [chars_flat l]
theorem join_own {s : Sto} {k : Nat} {l : List Nat} (h : s[k]? = some (.lst (l.map fun c => D.str [c]))) (hl : l.length ≤ 1000) : joinG s (.str []) [.ob k] = .val (.str l) s := by
  simp only [joinG, view_ob h (flats_map (fun _ => rfl) l), chars_strsD, chars_flat]
  rw [if_pos (by omega)]
theorem states_spec {s : Sto} {k : List Nat} {ps : List Pr} (c : Case k ps) : m_day_states [.str k, .tup (ps.map Pr.d)] s = .val (if goodB k ps = true then .str (statesR k ps) else .non) s := by
  have ha := all_spec (s := s) c
  have hkl := c.len
  by_cases g : Good k ps
  · rw [boundsR_good g] at ha
    rw [if_pos (goodB_iff.mpr g)]
    have hL : ∀ s, lenG s [.str k] = .val (.int k.length) s := fun s => lenG_str (by omega)
    have hget : ∀ o : SO, (s ++ [o])[s.length]? = some o := fun o => by rw [List.getElem?_append_right (Nat.le_refl _), Nat.sub_self]; rfl
    have hs2 : ∀ o o' : SO, (s ++ [o]).set s.length o' = s ++ [o'] := fun o o' => by rw [List.set_append_right _ _ (Nat.le_refl _), Nat.sub_self]; rfl
    have hr := fun (s : Sto) (d : Nat) (hd : d < k.length) => range_spec (s := s) (N := k.length + 1) (T := allT k ps) (i := d) (j := d) (by omega) (by omega)
    have hn := @is_tabD s (k.length + 1) (allT k ps)
    generalize tabD (k.length + 1) (allT k ps) = tb at ha hn hr
    obtain ⟨δ', s', e1, ⟨b4, b5, b6, rfl⟩, rfl⟩ := loop_inv (g := nameG 4) (body := l_day_states_1) (xs := upI 0 k.length)
      (fun i δ s' => (∃ b4 b5 b6, δ = [some (.str k), some (.tup (ps.map Pr.d)), some tb, some (.ob s.length), b4, b5, b6]) ∧ s' = s ++ [.lst (((List.range i).map (stR k ps)).map fun c => D.str [c])])
      (fun i x δ s' hx hI => by
        obtain ⟨⟨b4, b5, b6, rfl⟩, rfl⟩ := hI
        obtain ⟨rfl, hi⟩ := upI_get hx
        rw [Int.zero_add]
        obtain ⟨d0, d1, d2⟩ := day_le c g hi
        obtain ⟨q1, q2⟩ := app_at (d := .str [stR k ps i]) (hget (.lst (((List.range i).map (stR k ps)).map fun c => D.str [c]))) (by simp; omega)
        rw [hs2] at q2
        have e2 : (((List.range i).map (stR k ps)).map fun c => D.str [c]) ++ [.str [stR k ps i]] = ((List.range (i + 1)).map (stR k ps)).map fun c => D.str [c] := by rw [List.range_succ]; simp
        rw [e2] at q2
        have hri := fun s => hr s i hi
        refine ⟨_, _, ?_, ⟨some (.int (i : Int)), some (.int (-allT k ps (i + 1) i)), some (.int (allT k ps i (i + 1))), rfl⟩, rfl⟩
        generalize s ++ [SO.lst (((List.range i).map (stR k ps)).map fun c => D.str [c])] = S1 at q1 q2 ⊢
        generalize s ++ [SO.lst (((List.range (i + 1)).map (stR k ps)).map fun c => D.str [c])] = S2 at q2 ⊢
        have hix0 : ∀ s, ixG s (.str [102, 119]) (.int 0) = .val (.str [102]) s := fun s => ixG_str (by decide) atI_0
        have hix1 : ∀ s, ixG s (.str [102, 119]) (.int 1) = .val (.str [119]) s := fun s => ixG_str (by decide) atI_1
        unfold stR at q2
        by_cases h1 : -allT k ps (i + 1) i < allT k ps i (i + 1)
        · rw [if_pos h1] at q2
          simp -implicitDefEqProofs [turn, l_day_states_1, hri, h1, q1, q2]
        · rw [if_neg h1] at q2
          by_cases h2 : -allT k ps (i + 1) i = 0
          · rw [if_pos h2] at q2
            have h1a : ¬ (0 : Int) < allT k ps i (i + 1) := by omega
            simp -implicitDefEqProofs [turn, l_day_states_1, hri, h1a, h2, q1, q2, hix0]
          · rw [if_neg h2] at q2
            have h3 : -allT k ps (i + 1) i = 1 := by omega
            have h1b : ¬ (1 : Int) < allT k ps i (i + 1) := by omega
            simp -implicitDefEqProofs [turn, l_day_states_1, hri, h1b, h3, q1, q2, hix1])
      (δ := [some (.str k), some (.tup (ps.map Pr.d)), some tb, some (.ob s.length), none, none, none]) (s := s ++ [.lst []]) ⟨⟨_, _, _, rfl⟩, rfl⟩
    rw [upI_len] at e1
    have hj := join_own (hget (.lst ((statesR k ps).map fun c => D.str [c]))) (by simp [statesR]; omega)
    have e3 : ((List.range k.length).map (stR k ps)).map (fun c => D.str [c]) = (statesR k ps).map fun c => D.str [c] := rfl
    rw [e3] at e1
    simp -implicitDefEqProofs [m_day_states, fnF, b_day_states, N_day_states, startD, ha, hn, hL, sm_nat (show k.length ≤ 1000000 by omega), e1, isStr, hj]
  · rw [boundsR_bad g] at ha
    rw [if_neg (fun z => g (goodB_iff.mp z))]
    simp -implicitDefEqProofs [m_day_states, fnF, b_day_states, N_day_states, startD, ha]
end Fl
set_option Elab.async false
set_option linter.all false
set_option maxRecDepth 100000
set_option maxHeartbeats 1000000
namespace Fl
open L2
/-! general tools -/
theorem loopC_mapf {α : Type} {g : GF} {t : BF} {e : EF} {δ : Sl} {s : Sto} (f : α → D) (p : α → Bool) (v : α → D) : ∀ (ys : List α) (acc : List D), (∀ y ∈ ys, ∃ δ1, g (f y) δ s = .val δ1 s ∧ t δ1 s = .val (p y) s ∧ (p y = true → e δ1 s = .val (v y) s ∧ flat (v y) = true)) → acc.length + ys.length ≤ 16000000 →
    loopC g t e δ (ys.map f) acc s = .val (acc ++ (ys.filter p).map v) s
  | [], acc, _, _ => by simp
  | y :: ys, acc, h, hl => by
    obtain ⟨δ1, h1, h2, h3⟩ := h y (by simp)
    simp only [List.length_cons] at hl
    have ih := fun acc hl => loopC_mapf (s := s) (δ := δ) (g := g) (t := t) (e := e) f p v ys acc (fun z hz => h z (by simp [hz])) hl
    rw [List.map_cons, loopC_cons, h1]
    cases hb : p y with
    | true =>
      rw [hb] at h2
      obtain ⟨h4, h5⟩ := h3 hb
      simp -implicitDefEqProofs [h2, h4, h5, hb, show acc.length < 16000000 by omega, ih (acc ++ [v y]) (by simp; omega)]
    | false =>
      rw [hb] at h2
      simp -implicitDefEqProofs [h2, hb, ih acc (by omega)]
theorem loopC_map {α : Type} {g : GF} {e : EF} {δ : Sl} {s : Sto} (f : α → D) (v : α → D) (ys : List α) (h : ∀ y ∈ ys, ∃ δ1, g (f y) δ s = .val δ1 s ∧ e δ1 s = .val (v y) s ∧ flat (v y) = true) (hl : ys.length ≤ 16000000) :
    loopC g yes e δ (ys.map f) [] s = .val (ys.map v) s := by
  rw [loopC_mapf f (fun _ => true) v ys [] (fun y hy => by
    obtain ⟨δ1, h1, h2, h3⟩ := h y hy
    exact ⟨δ1, h1, rfl, fun _ => ⟨h2, h3⟩⟩) (by simpa using hl), List.nil_append, List.filter_eq_self.mpr (fun _ _ => rfl)]
/-- numbers in a list -/
def upL (P : Nat → Int) (n : Nat) : List D := (List.range n).map fun j => D.int (P j)
@[simp] theorem upL_len {P : Nat → Int} {n : Nat} : (upL P n).length = n := by simp [upL]
theorem upL_get {P : Nat → Int} {n j : Nat} (h : j < n) : (upL P n)[j]? = some (.int (P j)) := by
  unfold upL; rw [List.getElem?_map, List.getElem?_range h]; rfl
theorem upL_deps {P : Nat → Int} {n : Nat} : deps (upL P n) ≤ 0 := deps_le fun d hd => by
  obtain ⟨j, _, rfl⟩ := List.mem_map.mp hd; simp
theorem upL_okDs {P : Nat → Int} {n : Nat} : okDs (upL P n) = true := okDs_map (fun _ => rfl) _
theorem upL_congr {P Q : Nat → Int} {n : Nat} (h : ∀ j, j < n → P j = Q j) : upL P n = upL Q n := by
  unfold upL; exact List.map_congr_left fun j hj => by rw [h j (List.mem_range.mp hj)]
theorem upL_ix {s : Sto} {P : Nat → Int} {n j : Nat} {x : Int} (h : j < n) (hx : x = j) : ixG s (.lst (upL P n)) (.int x) = .val (.int (P j)) s := by
  rw [hx]; exact ixG_lst (atI_nat (upL_get h))
theorem atI_last {α : Type} {l : List α} {a : α} (h : l[l.length - 1]? = some a) : L2.atI l (-1) = some a := by
  have hl : 0 < l.length := by
    cases l with
    | nil => simp at h
    | cons b l => simp
  have : ixN l.length (-1) = some (l.length - 1) := by
    unfold ixN
    simp
    omega
  unfold L2.atI
  rw [this]; exact h
theorem upL_last {s : Sto} {P : Nat → Int} {n : Nat} (h : 0 < n) : ixG s (.lst (upL P n)) (.int (-1)) = .val (.int (P (n - 1))) s :=
  ixG_lst (atI_last (by rw [upL_len]; exact upL_get (by omega)))
theorem eq_self {s : Sto} {ds : List D} (h : okDs ds = true) (hd : deps ds ≤ 59) : eqG s (.lst ds) (.lst ds) = .val (.bl true) s := by
  rw [eqG_def, view_lst, if_pos (by rw [dep_lst]; omega), deq_lst, deqs_refl _ (okDs_plain _ h)]
theorem ne_self {s : Sto} {ds : List D} (h : okDs ds = true) (hd : deps ds ≤ 59) : neG s (.lst ds) (.lst ds) = .val (.bl false) s := by
  rw [neG_def, view_lst, if_pos (by rw [dep_lst]; omega), deq_lst, deqs_refl _ (okDs_plain _ h)]; rfl
theorem isIn_strs {r : List Nat} {rows : List (List Nat)} : isIn (.str r) (strsL rows) = decide (r ∈ rows) := by
  unfold isIn strsL
  rw [Bool.eq_iff_iff, List.any_eq_true, decide_eq_true_eq]
  constructor
  · rintro ⟨z, hz, h⟩
    obtain ⟨q, hq, rfl⟩ := List.mem_map.mp hz
    simp at h; exact h ▸ hq
  · intro h
    exact ⟨.str r, List.mem_map.mpr ⟨r, h, rfl⟩, by simp⟩
theorem nin_strs {s : Sto} {r : List Nat} {rows : List (List Nat)} : ninG s (.str r) (.lst (strsL rows)) = .val (.bl (!decide (r ∈ rows))) s := by
  have e : inB s (.str r) (.lst (strsL rows)) = some (decide (r ∈ rows)) := by
    have hc : dep (view s (.str r)) ≤ 60 ∧ deps (strsL rows) ≤ 59 := ⟨by simp, Nat.le_trans (strs_deps rows) (by decide)⟩
    show (if dep (view s (.str r)) ≤ 60 ∧ deps (strsL rows) ≤ 59 then some (isIn (view s (.str r)) (strsL rows)) else none) = _
    rw [if_pos hc, view_str, isIn_strs]
  unfold ninG; rw [e]
theorem intsD_map {α : Type} (f : α → Int) : ∀ xs : List α, intsD (xs.map fun x => D.int (f x)) = some (xs.map f)
  | [] => rfl
  | x :: xs => by simp [intsD, intsD_map f xs]
theorem min_spec {α : Type} {s : Sto} {f : α → Int} {xs : List α} {m : Int} (h1 : ∃ x ∈ xs, f x = m) (h2 : ∀ x ∈ xs, m ≤ f x) : minG s [.lst (xs.map fun x => D.int (f x))] = .val (.int m) s := by
  obtain ⟨x, hx, e⟩ := h1
  have hl : 0 < (xs.map f).length := by rw [List.length_map]; exact List.length_pos_of_mem hx
  have hm : m = minL (xs.map f) := min_at hl (List.mem_map.mpr ⟨x, hx, e⟩) (fun y hy => by
    obtain ⟨z, hz, rfl⟩ := List.mem_map.mp hy; exact h2 z hz)
  unfold minG
  simp only [view_lst, intsD_map, if_pos hl, ← hm]
theorem max_spec {α : Type} {s : Sto} {f : α → Int} {xs : List α} {m : Int} (h1 : ∃ x ∈ xs, f x = m) (h2 : ∀ x ∈ xs, f x ≤ m) : maxG s [.lst (xs.map fun x => D.int (f x))] = .val (.int m) s := by
  obtain ⟨x, hx, e⟩ := h1
  have hl : 0 < (xs.map f).length := by rw [List.length_map]; exact List.length_pos_of_mem hx
  have hm : m = maxL (xs.map f) := max_at hl (List.mem_map.mpr ⟨x, hx, e⟩) (fun y hy => by
    obtain ⟨z, hz, rfl⟩ := List.mem_map.mp hy; exact h2 z hz)
  unfold maxG
  simp only [view_lst, intsD_map, if_pos hl, ← hm]
/-- the promises that a row keeps -/
theorem keepG {s : Sto} {r : List Nat} {ps : List Pr} {δ : Sl} {i j : Nat} (hδ : i < δ.length) (hij : i ≠ j) (h3 : δ[j]? = some (some (.str r))) (hl : r.length ≤ 1000) (hr : Row r) (hp : ∀ p ∈ ps, (p.k = kOn ∨ p.k = kBy ∨ p.k = kFrom) ∧ p.s ≤ 1000) (hps : ps.length ≤ 1000) :
    loopC (nameG i) (tst (callF 2 m_law_keeps (con (varF j) (con (varF i) (nil))))) (varF i) δ (ps.map Pr.d) [] s = .val ((ps.filter (keepsP r)).map Pr.d) s := by
  rw [loopC_mapf Pr.d (keepsP r) Pr.d ps [] (fun p h => ?_) (by simp; omega)]
  · simp
  · obtain ⟨g1, g2⟩ := hp p h
    have hk := @law_keeps_spec r p s hl hr g1 g2
    have v3 : (δ.set i (some p.d))[j]? = some (some (.str r)) := by rw [List.getElem?_set_ne hij]; exact h3
    have v20 : (δ.set i (some p.d))[i]? = some (some p.d) := List.getElem?_set_self hδ
    exact ⟨_, rfl, by simp -implicitDefEqProofs [v3, v20, hk], fun _ => ⟨by simp [v20], rfl⟩⟩
theorem pc_take (r : List Nat) : ∀ j : Nat, j ≤ r.length → pc r j = (r.take j).count 119
  | 0, _ => by simp [pc]
  | j + 1, h => by
    rw [pc_succ, pc_take r j (by omega), List.take_succ]
    have hj : j < r.length := h
    rw [List.getElem?_eq_getElem hj, List.count_append]
    congr 1
    by_cases e : r[j] = 119
    · rw [if_pos (wk_iff.mpr (by rw [List.getElem?_eq_getElem hj, e]))]; simp [e]
    · rw [if_neg (fun z => by have := wk_iff.mp z; rw [List.getElem?_eq_getElem hj] at this; exact e (Option.some.inj this))]
      simp [List.count_singleton, e]
def upR (r : List Nat) : List D := upL (fun j => (pc r (j + 1) : Int)) r.length
theorem up_to_spec {s : Sto} {r : List Nat} (hl : r.length ≤ 1000) : m_law_up_to [.str r] s = .val (.lst (upR r)) s := by
  have comp : ∀ δ, loopC (nameG 1) yes (meB' isStr cntG (slF slG (varF 0) noP (parF (bin addG (varF 1) (cF (.int 1))))) (con (cF (.str [119])) (nil))) [some (.str r), δ] (upI 0 r.length) [] s = .val (upR r) s := fun δ => by
    unfold upI
    rw [loopC_map (fun (j : Nat) => D.int (0 + (j : Int))) (fun j => D.int (pc r (j + 1) : Int)) (List.range r.length) (fun j hj => ?_) (by simp; omega)]
    · rfl
    · have hj' := List.mem_range.mp hj
      refine ⟨_, rfl, ?_, rfl⟩
      have i1 : ∀ s, slG s (.str r) none (some ((j : Int) + 1)) = .val (.str (r.take (j + 1))) s := fun s => by
        simp only [slG, view_str, if_pos (show r.length ≤ 16000000 by omega)]
        rw [show ((j : Int) + 1) = ((j + 1 : Nat) : Int) by omega, cut_take (by omega)]
      have c1 : ∀ s, cntG s (.str (r.take (j + 1))) [.str [119]] = .val (.int (pc r (j + 1) : Nat)) s := fun s => by
        simp only [cntG]; rw [pc_take r (j + 1) (by omega)]
      simp -implicitDefEqProofs [i1, isStr, c1]
  have hL : ∀ s, lenG s [.str r] = .val (.int r.length) s := fun s => lenG_str (by omega)
  simp -implicitDefEqProofs [m_law_up_to, fnF, b_law_up_to, N_law_up_to, startD, wipeD, hL, sm_nat (show r.length ≤ 1000000 by omega), comp]
/-- what stands between the turns of a law -/
structure Inv (n : Nat) (δ : Sl) (s : Sto) : Prop where
  len : δ.length = n
  tp : δ[1]? = some (some (.ob 0))
  tap : Tap 0 s
theorem law_turns {N : List PySem.Str} {n m : Nat} {body ret : SF} (hN : N.length = n) (hn : 2 ≤ n) (hm : m ≤ 1000) (step : ∀ x δ s, Inv n δ s → ∃ δ2 s2, turn (nameG 2) body x δ s = .nx δ2 s2 ∧ Inv n δ2 s2) (hret : ∀ δ s, Inv n δ s → ∃ s', ret δ s = .rt (.bl true) s') (ns : List Int) :
    ∃ s, fnF N 1 (seqS (setS 1 (ownE (con (fnB listF (con (varF 0) (nil))) (con (cF (.int 0)) (con (cF (.int 0)) (nil)))))) (seqS (forS (rng1F (con (cF (.int (m : Int))) (nil))) (nameG 2) body) ret)) [.scr ns] [] = .val (.bl true) s := by
  have T0 : Tap 0 [Tp.o ⟨ns, 0, 0⟩] := ⟨⟨ns, 0, 0⟩, ⟨Int.le_refl _, Int.le_refl _⟩, rfl⟩
  obtain ⟨k, rfl⟩ : ∃ k, n = k + 2 := ⟨n - 2, by omega⟩
  have hst : startD N [.scr ns] = some (.scr ns) :: none :: List.replicate k none := by
    unfold startD
    rw [hN]
    show some (D.scr ns) :: List.replicate (k + 1) none = _
    rw [List.replicate_succ]
  obtain ⟨δ', s', e2, I⟩ := loop_inv (g := nameG 2) (body := body) (xs := upI 0 m) (fun _ δ s => Inv (k + 2) δ s) (fun i x δ s _ h => step x δ s h)
    (δ := some (.scr ns) :: some (.ob 0) :: List.replicate k none) (s := [Tp.o ⟨ns, 0, 0⟩]) ⟨by simp, rfl, T0⟩
  obtain ⟨s2, e3⟩ := hret δ' s' I
  unfold Tp.o at e2
  refine ⟨s2.take 0, ?_⟩
  simp -implicitDefEqProofs [fnF, hst, sm_nat (show m ≤ 1000000 by omega), e2, e3]
theorem inB_seq {s : Sto} {x y : D} {ds : List D} (h : view s y = .lst ds) (h1 : dep (view s x) ≤ 60) (h2 : deps ds ≤ 59) : inB s x y = some (isIn (view s x) ds) := by
  unfold inB; rw [h]; exact if_pos ⟨h1, h2⟩
theorem ninG_of {s : Sto} {x y : D} {b : Bool} (h : inB s x y = some b) : ninG s x y = .val (.bl (!b)) s := by unfold ninG; rw [h]
theorem inG_of {s : Sto} {x y : D} {b : Bool} (h : inB s x y = some b) : inG s x y = .val (.bl b) s := by unfold inG; rw [h]
theorem cut_cnt {r : List Nat} {f l : Nat} (h : f ≤ l) (hl : l ≤ r.length) : pc r f + (cutD r (some (f : Int)) (some (l : Int))).count 119 = pc r l := by
  unfold cutD
  rw [HT.sIx_nat, HT.sIx_nat, Nat.min_eq_left (show f ≤ r.length by omega), Nat.min_eq_left hl, pc_take r f (by omega), pc_take r l hl, ← List.count_append]
  congr 1
  rw [show l = f + (l - f) by omega, List.take_add, Nat.add_sub_cancel_left]
theorem rows_pow (k : List Nat) (ps : List Pr) : (rowsR k ps).length ≤ 2 ^ k.length := by
  unfold rowsR
  refine Nat.le_trans (List.length_filter_le _ _) ?_
  have := allR_len k k.length
  rwa [List.take_length] at this
theorem Fits.btw {k : List Nat} {ps : List Pr} (c : Case k ps) {r : List Nat} (f : Fits k ps r) {i j : Nat} (hi : i ≤ k.length) (hj : j ≤ k.length) : -allT k ps j i ≤ (pc r j : Int) - pc r i ∧ (pc r j : Int) - pc r i ≤ allT k ps i j := by
  have s := f.sat c
  have h1 := s i j (by omega) (by omega)
  have h2 := s j i (by omega) (by omega)
  unfold Pn at h1 h2
  omega
theorem range_ok {k : List Nat} {ps : List Pr} (g : Good k ps) (i j : Nat) : rangeR k ps i j = .tup [.int (-allT k ps (j + 1) i), .int (allT k ps i (j + 1))] := by unfold rangeR; rw [if_pos (goodB_iff.mpr g)]
theorem goodB_false {k : List Nat} {ps : List Pr} (g : ¬ Good k ps) : goodB k ps = false := by rw [Bool.eq_false_iff]; exact fun z => g (goodB_iff.mp z)
theorem rows_none {k : List Nat} {ps : List Pr} (c : Case k ps) (g : ¬ Good k ps) : rowsR k ps = [] := by
  rw [List.eq_nil_iff_forall_not_mem]
  intro r hr
  exact g (((rows_mem c.kn r).mp hr).good c)
theorem srtI_range {ns : List Int} {lo : Int} {n : Nat} (h : ∀ v, v ∈ ns ↔ lo ≤ v ∧ v < lo + n) : srtI ns = (List.range n).map fun (i : Nat) => lo + (i : Int) := by
  refine srtI_eq ?_ fun v => ?_
  · rw [List.pairwise_map]
    exact List.pairwise_lt_range.imp fun {a b} z => by omega
  · rw [h, List.mem_map]
    constructor
    · rintro ⟨i, hi, rfl⟩
      have := List.mem_range.mp hi
      omega
    · rintro ⟨h1, h2⟩
      refine ⟨(v - lo).toNat, List.mem_range.mpr ?_, ?_⟩ <;> omega
theorem ss_ints {α : Type} {fa : EF} {δ : Sl} {s s1 : Sto} {f : α → Int} {xs : List α} {zs : List Int} (h : fa δ s = .val (.lst (xs.map fun x => D.int (f x))) s1) (hl : xs.length ≤ 4000) (hz : srtI (xs.map f) = zs) : ssF fa δ s = .val (.lst (zs.map D.int)) s1 := by
  unfold ssF
  rw [h, O.bind_val]
  simp only [view_lst, intsD_map]
  rw [if_pos (few_len (by rw [List.length_map]; exact hl)), hz]
end Fl
set_option Elab.async false
set_option linter.all false
set_option maxRecDepth 100000
set_option maxHeartbeats 1000000
namespace Fl
open L2
/-! ### the table of ways, as plain mathematics -/
theorem wk_app {r t : List Nat} {i : Nat} (h : i < r.length) : wk (r ++ t) i = wk r i := by
  unfold wk; rw [List.getElem?_append_left h]
theorem pc_app {r t : List Nat} : ∀ {j : Nat}, j ≤ r.length → pc (r ++ t) j = pc r j
  | 0, _ => rfl
  | j + 1, h => by
    rw [pc_succ, pc_succ, pc_app (by omega), wk_app (by omega)]
theorem pc_snoc {r : List Nat} {x : Nat} : pc (r ++ [x]) (r.length + 1) = pc r r.length + if x = 119 then 1 else 0 := by
  rw [pc_succ, pc_app (Nat.le_refl _)]
  congr 1
  unfold wk
  rw [List.getElem?_append_right (Nat.le_refl _)]
  simp
/-- what is left of a promise behind the days r -/
def leftP (r : List Nat) (p : Pr) : Option Nat := if p.s < r.length ∧ r.length ≤ p.e then some (p.c + 1 - (pc r r.length - pc r p.s)) else none
/-- .. at the beginning of the next day -/
def midP (r : List Nat) (p : Pr) : Option Nat := if p.s ≤ r.length ∧ r.length ≤ p.e then some (p.c + 1 - (pc r r.length - pc r p.s)) else none
def startP (p : Pr) (d : Nat) (own : Option Nat) : Option (Option Nat) :=
  let o := if p.s = d then some (p.c + 1) else own
  match o with
  | some n => if p.k ≠ kBy ∧ n < 1 then none else some o
  | none => some none
def endP (p : Pr) (d x : Nat) (own : Option Nat) : Option (Option Nat) := match own with
  | none => some none
  | some n => if d = p.e then (if p.k ≠ kFrom ∧ 0 < n - (if x = 119 then 1 else 0) then none else some none) else some (some (n - (if x = 119 then 1 else 0)))
/-- the promise can be gone on with at the beginning of the day behind r -/
def stOk (r : List Nat) (p : Pr) : Bool := decide (p.k ≠ kBy → p.s ≤ r.length → r.length ≤ p.e → pc r r.length ≤ pc r p.s + p.c)
/-- .. at its end, r with that day -/
def enOk (r : List Nat) (p : Pr) : Bool := decide (p.k ≠ kFrom → p.e + 1 = r.length → pc r p.s + p.c + 1 ≤ pc r (p.e + 1))
theorem start_left {r : List Nat} {p : Pr} (hse : p.s ≤ p.e) : startP p r.length (leftP r p) = if stOk r p = true then some (midP r p) else none := by
  unfold startP leftP midP stOk
  by_cases h1 : p.s = r.length
  · have h2 : p.s ≤ r.length ∧ r.length ≤ p.e := ⟨by omega, by omega⟩
    rw [if_pos h1]
    simp only [if_pos h2]
    have h5 : decide (p.k ≠ kBy → p.s ≤ r.length → r.length ≤ p.e → pc r r.length ≤ pc r p.s + p.c) = true := by
      simp only [decide_eq_true_eq]; intro _ _ _; rw [h1]; omega
    rw [if_neg (by omega), if_pos h5, h1]
    simp
  · rw [if_neg h1]
    by_cases h2 : p.s < r.length ∧ r.length ≤ p.e
    · have h3 : p.s ≤ r.length ∧ r.length ≤ p.e := ⟨by omega, h2.2⟩
      simp only [if_pos h2, if_pos h3]
      by_cases h4 : p.k ≠ kBy ∧ p.c + 1 - (pc r r.length - pc r p.s) < 1
      · rw [if_pos h4, if_neg]
        simp only [decide_eq_true_eq]
        intro z
        have := z h4.1 h3.1 h3.2
        omega
      · rw [if_neg h4, if_pos]
        simp only [decide_eq_true_eq]
        intro z1 _ _
        have := pc_mono r h3.1
        by_cases q : p.c + 1 - (pc r r.length - pc r p.s) < 1
        · exact absurd ⟨z1, q⟩ h4
        · omega
    · have h3 : ¬ (p.s ≤ r.length ∧ r.length ≤ p.e) := by omega
      simp only [if_neg h2, if_neg h3]
      rw [if_pos]
      simp only [decide_eq_true_eq]
      intro _ z1 z2; exact absurd ⟨z1, z2⟩ h3
theorem end_mid {r : List Nat} {p : Pr} {x : Nat} (hse : p.s ≤ p.e) : endP p r.length x (midP r p) = if enOk (r ++ [x]) p = true then some (leftP (r ++ [x]) p) else none := by
  have hl : (r ++ [x]).length = r.length + 1 := by simp
  unfold endP midP leftP enOk
  rw [hl]
  by_cases h1 : p.s ≤ r.length ∧ r.length ≤ p.e
  · have m := pc_mono r h1.1
    have e1 : pc (r ++ [x]) p.s = pc r p.s := pc_app h1.1
    have e2 := pc_snoc (r := r) (x := x)
    simp only [if_pos h1]
    by_cases h2 : r.length = p.e
    · rw [if_pos h2]
      have h3 : ¬ (p.s < r.length + 1 ∧ r.length + 1 ≤ p.e) := by omega
      rw [if_neg h3]
      rw [← h2, e1, e2]
      by_cases hx : x = 119
      · simp only [if_pos hx]
        by_cases h4 : p.k ≠ kFrom ∧ 0 < p.c + 1 - (pc r r.length - pc r p.s) - 1
        · rw [if_pos h4, if_neg]
          simp only [decide_eq_true_eq]
          intro z
          have := z h4.1 (by trivial)
          omega
        · rw [if_neg h4, if_pos]
          simp only [decide_eq_true_eq]
          intro z1 _
          by_cases q : 0 < p.c + 1 - (pc r r.length - pc r p.s) - 1
          · exact absurd ⟨z1, q⟩ h4
          · omega
      · simp only [if_neg hx]
        by_cases h4 : p.k ≠ kFrom ∧ 0 < p.c + 1 - (pc r r.length - pc r p.s) - 0
        · rw [if_pos h4, if_neg]
          simp only [decide_eq_true_eq]
          intro z
          have := z h4.1 (by trivial)
          omega
        · rw [if_neg h4, if_pos]
          simp only [decide_eq_true_eq]
          intro z1 _
          by_cases q : 0 < p.c + 1 - (pc r r.length - pc r p.s) - 0
          · exact absurd ⟨z1, q⟩ h4
          · omega
    · rw [if_neg h2]
      have h3 : p.s < r.length + 1 ∧ r.length + 1 ≤ p.e := by omega
      have h5 : decide (p.k ≠ kFrom → p.e + 1 = r.length + 1 → pc (r ++ [x]) p.s + p.c + 1 ≤ pc (r ++ [x]) (p.e + 1)) = true := by
        simp only [decide_eq_true_eq]; intro _ z; omega
      rw [if_pos h3, if_pos h5, e1, e2]
      congr 2
      split <;> omega
  · simp only [if_neg h1]
    have h3 : ¬ (p.s < r.length + 1 ∧ r.length + 1 ≤ p.e) := by omega
    rw [if_neg h3, if_pos]
    simp only [decide_eq_true_eq]
    intro _ z; omega
/-! ### all promises -/
def startsP : List Pr → Nat → List (Option Nat) → Option (List (Option Nat))
  | p :: ps, d, o :: os => match startP p d o with
    | none => none
    | some o' => (startsP ps d os).map (o' :: ·)
  | _, _, _ => some []
def endsP : List Pr → Nat → Nat → List (Option Nat) → Option (List (Option Nat))
  | p :: ps, d, x, o :: os => match endP p d x o with
    | none => none
    | some o' => (endsP ps d x os).map (o' :: ·)
  | _, _, _, _ => some []
def leftsP (ps : List Pr) (r : List Nat) : List (Option Nat) := ps.map (leftP r)
theorem starts_left {r : List Nat} : ∀ {ps : List Pr}, (∀ p ∈ ps, p.s ≤ p.e) → startsP ps r.length (leftsP ps r) = if ps.all (stOk r) = true then some (ps.map (midP r)) else none
  | [], _ => rfl
  | p :: ps, h => by
    have ih := starts_left (r := r) (ps := ps) fun q hq => h q (List.mem_cons_of_mem _ hq)
    unfold leftsP at ih ⊢
    rw [List.map_cons, startsP, start_left (h p (List.mem_cons_self ..)), List.all_cons, ih]
    cases stOk r p <;> cases ps.all (stOk r) <;> simp
theorem ends_mid {r : List Nat} {x : Nat} : ∀ {ps : List Pr}, (∀ p ∈ ps, p.s ≤ p.e) → endsP ps r.length x (ps.map (midP r)) = if ps.all (enOk (r ++ [x])) = true then some (leftsP ps (r ++ [x])) else none
  | [], _ => rfl
  | p :: ps, h => by
    have ih := ends_mid (r := r) (ps := ps) (x := x) fun q hq => h q (List.mem_cons_of_mem _ hq)
    unfold leftsP at ih ⊢
    rw [List.map_cons, endsP, end_mid (h p (List.mem_cons_self ..)), List.all_cons, ih]
    cases enOk (r ++ [x]) p <;> cases ps.all (enOk (r ++ [x])) <;> simp
/-- the letters that day d can have -/
def dayK (k : List Nat) (d x : Nat) : Bool := k[d]? == some x || k[d]? == some 63
def stepsP (k : List Nat) (ps : List Pr) (d : Nat) (lefts : List (Option Nat)) : List (Nat × List (Option Nat)) := match startsP ps d lefts with
  | none => []
  | some here => [102, 119].filterMap fun x => if dayK k d x = true then (endsP ps d x here).map (Prod.mk x) else none
/-- a further day x behind r -/
def stepOk (ps : List Pr) (r : List Nat) (x : Nat) : Bool := ps.all (stOk r) && ps.all (enOk (r ++ [x]))
theorem steps_left {k r : List Nat} {ps : List Pr} (h : ∀ p ∈ ps, p.s ≤ p.e) : stepsP k ps r.length (leftsP ps r) = ([102, 119].filter fun x => dayK k r.length x && stepOk ps r x).map fun x => (x, leftsP ps (r ++ [x])) := by
  unfold stepsP stepOk
  rw [starts_left h]
  cases hs : ps.all (stOk r) with
  | false => simp
  | true =>
    simp only [if_true, Bool.true_and]
    have e : ∀ x, endsP ps r.length x (ps.map (midP r)) = if ps.all (enOk (r ++ [x])) = true then some (leftsP ps (r ++ [x])) else none := fun x => ends_mid h
    have one : ∀ x, (if dayK k r.length x = true then (endsP ps r.length x (ps.map (midP r))).map (Prod.mk x) else none) = if (dayK k r.length x && ps.all (enOk (r ++ [x]))) = true then some (x, leftsP ps (r ++ [x])) else none := fun x => by
      rw [e x]
      cases dayK k r.length x <;> cases ps.all (enOk (r ++ [x])) <;> simp
    simp only [one, List.filterMap_cons, List.filterMap_nil, List.filter_cons, List.filter_nil]
    cases (dayK k r.length 102 && ps.all (enOk (r ++ [102]))) <;> cases (dayK k r.length 119 && ps.all (enOk (r ++ [119]))) <;> simp
/-! ### the ways to go on -/
def rwsP (k : List Nat) (ps : List Pr) : Nat → Nat → List (Option Nat) → List (List Nat)
  | 0, _, _ => [[]]
  | m + 1, d, lefts => (stepsP k ps d lefts).flatMap fun st => (rwsP k ps m (d + 1) st.2).map (st.1 :: ·)
def cntP (k : List Nat) (ps : List Pr) : Nat → Nat → List (Option Nat) → Nat
  | 0, _, _ => 1
  | m + 1, d, lefts => ((stepsP k ps d lefts).map fun st => cntP k ps m (d + 1) st.2).sum
theorem cnt_rws (k : List Nat) (ps : List Pr) : ∀ (m d : Nat) (lefts : List (Option Nat)), cntP k ps m d lefts = (rwsP k ps m d lefts).length
  | 0, _, _ => rfl
  | m + 1, d, lefts => by
    rw [cntP, rwsP, List.length_flatMap]
    congr 1
    refine List.map_congr_left fun st _ => ?_
    rw [cnt_rws k ps m, List.length_map]
/-- all completions, ascending -/
def cmpR : List Nat → List (List Nat)
  | [] => [[]]
  | c :: k => (ext c).flatMap fun x => (cmpR k).map (x :: ·)
theorem cmp_fold : ∀ (k : List Nat) (acc : List (List Nat)), k.foldl growR acc = acc.flatMap fun r => (cmpR k).map (r ++ ·)
  | [], acc => by simp [cmpR]
  | c :: k, acc => by
    rw [List.foldl_cons, cmp_fold k]
    unfold growR
    rw [List.flatMap_assoc]
    congr 1
    funext r
    rw [cmpR, List.map_flatMap, List.flatMap_map]
    congr 1
    funext x
    rw [List.map_map]
    refine List.map_congr_left fun t _ => ?_
    simp
theorem cmp_all (k : List Nat) : allR k = cmpR k := by
  rw [allR, cmp_fold]; simp
/-- t can be gone on with behind r -/
def goesB (ps : List Pr) : List Nat → List Nat → Bool
  | _, [] => true
  | r, x :: t => stepOk ps r x && goesB ps (r ++ [x]) t
theorem flatMap_filterMap {α β : Type} (f : α → List β) (p : α → Bool) : ∀ l : List α, (l.filter p).flatMap f = l.flatMap fun x => if p x = true then f x else []
  | [] => rfl
  | a :: l => by
    rw [List.filter_cons, List.flatMap_cons]
    cases h : p a <;> simp [flatMap_filterMap f p l]
theorem rws_eq {k : List Nat} {ps : List Pr} (hk : Kn k) (h : ∀ p ∈ ps, p.s ≤ p.e) : ∀ (m : Nat) (r : List Nat), r.length + m = k.length → rwsP k ps m r.length (leftsP ps r) = (cmpR (k.drop r.length)).filter (goesB ps r)
  | 0, r, e => by
    rw [List.drop_eq_nil_of_le (by omega)]
    rfl
  | m + 1, r, e => by
    have hlt : r.length < k.length := by omega
    have ih := fun x => rws_eq hk h m (r ++ [x]) (by simp; omega)
    have hl : ∀ x : Nat, (r ++ [x]).length = r.length + 1 := fun x => by simp
    simp only [hl] at ih
    rw [rwsP, steps_left h, List.flatMap_map, List.drop_eq_getElem_cons hlt, cmpR]
    simp only [ih]
    have hc := hk k[r.length] (List.getElem_mem hlt)
    have hget : k[r.length]? = some k[r.length] := List.getElem?_eq_getElem hlt
    have hfil : ∀ x : Nat, ((cmpR (k.drop (r.length + 1))).map (x :: ·)).filter (goesB ps r) = if stepOk ps r x = true then ((cmpR (k.drop (r.length + 1))).filter (goesB ps (r ++ [x]))).map (x :: ·) else [] := fun x => by
      rw [List.filter_map]
      cases hs : stepOk ps r x with
      | true =>
        rw [if_pos rfl]
        congr 1
        refine List.filter_congr fun t _ => ?_
        simp [goesB, hs]
      | false =>
        rw [if_neg (by simp)]
        rw [List.filter_eq_nil_iff.mpr (fun t _ => by simp [goesB, hs])]
        rfl
    rw [List.filter_flatMap]
    simp only [hfil]
    rw [flatMap_filterMap]
    unfold dayK ext
    rw [hget]
    rcases hc with q | q | q
    · rw [q]; simp
    · rw [q]; simp
    · rw [q]; simp
theorem goes_iff {ps : List Pr} : ∀ {t r : List Nat}, goesB ps r t = true ↔ ∀ j x, t[j]? = some x → stepOk ps (r ++ t.take j) x = true
  | [], r => by simp [goesB]
  | x :: t, r => by
    rw [goesB, Bool.and_eq_true, goes_iff (t := t)]
    constructor
    · rintro ⟨h1, h2⟩ j y hj
      cases j with
      | zero => simp at hj; subst hj; simpa using h1
      | succ j =>
        simp at hj
        have := h2 j y hj
        simpa using this
    · intro h
      refine ⟨by simpa using h 0 x (by simp), fun j y hj => ?_⟩
      have := h (j + 1) y (by simpa using hj)
      simpa using this
theorem pc_tk {t : List Nat} {i j : Nat} (h : i ≤ j) (hj : j ≤ t.length) : pc (t.take j) i = pc t i := by
  have e : t = t.take j ++ t.drop j := (List.take_append_drop j t).symm
  have hl : i ≤ (t.take j).length := by rw [List.length_take]; omega
  have := pc_app (r := t.take j) (t := t.drop j) hl
  rw [← e] at this
  exact this.symm
theorem goes_keeps {ps : List Pr} {t : List Nat} {n : Nat} (ht : t.length = n) (h : ∀ p ∈ ps, p.ok n) : goesB ps [] t = true ↔ ∀ p ∈ ps, keepsP t p = true := by
  rw [goes_iff]
  simp only [List.nil_append]
  have key : ∀ p ∈ ps, (∀ j x, t[j]? = some x → stOk (t.take j) p = true ∧ enOk (t.take j ++ [x]) p = true) ↔ keepsP t p = true := by
    intro p hp
    have ok := h p hp
    rw [keeps_okp ht ok]
    unfold Okp Pn
    constructor
    · intro hj
      constructor
      · intro hk
        have he : p.e < t.length := by rw [ht]; exact ok.en
        have hx : t[p.e]? = some t[p.e] := List.getElem?_eq_getElem he
        have := (hj p.e _ hx).2
        rw [← take_snoc hx] at this
        unfold enOk at this
        simp only [decide_eq_true_eq] at this
        have hl : (t.take (p.e + 1)).length = p.e + 1 := by rw [List.length_take]; omega
        have z := this hk hl.symm
        rw [pc_tk (by have := ok.se; omega) (by omega), pc_tk (Nat.le_refl _) (by omega)] at z
        omega
      · intro hk
        have he : p.e < t.length := by rw [ht]; exact ok.en
        have hx : t[p.e]? = some t[p.e] := List.getElem?_eq_getElem he
        have := (hj p.e _ hx).1
        unfold stOk at this
        simp only [decide_eq_true_eq] at this
        have hl : (t.take p.e).length = p.e := by rw [List.length_take]; omega
        rw [hl] at this
        have z := this hk ok.se (Nat.le_refl _)
        rw [pc_tk (Nat.le_refl _) (by omega), pc_tk ok.se (by omega)] at z
        omega
    · rintro ⟨A, B⟩ j x hx
      have hj : j < t.length := (List.getElem?_eq_some_iff.mp hx).1
      constructor
      · unfold stOk
        simp only [decide_eq_true_eq]
        have hl : (t.take j).length = j := by rw [List.length_take]; omega
        rw [hl]
        intro hk h1 h2
        rw [pc_tk (Nat.le_refl _) (by omega), pc_tk h1 (by omega)]
        have m := pc_mono t h2
        have := B hk
        omega
      · rw [← take_snoc hx]
        unfold enOk
        simp only [decide_eq_true_eq]
        have hl : (t.take (j + 1)).length = j + 1 := by rw [List.length_take]; omega
        rw [hl]
        intro hk h1
        have hse := ok.se
        rw [pc_tk (by omega) (by omega), pc_tk (by omega) (by omega)]
        have := A hk
        omega
  constructor
  · intro hj p hp
    refine (key p hp).mp fun j x hx => ?_
    have := hj j x hx
    unfold stepOk at this
    rw [Bool.and_eq_true, List.all_eq_true, List.all_eq_true] at this
    exact ⟨this.1 p hp, this.2 p hp⟩
  · intro hk j x hx
    unfold stepOk
    rw [Bool.and_eq_true, List.all_eq_true, List.all_eq_true]
    exact ⟨fun p hp => ((key p hp).mpr (hk p hp) j x hx).1, fun p hp => ((key p hp).mpr (hk p hp) j x hx).2⟩
/-- the rows that fit are the ways to go on from the first day -/
theorem rows_rws {k : List Nat} {ps : List Pr} (hk : Kn k) (h : ∀ p ∈ ps, p.ok k.length) : rwsP k ps k.length 0 (leftsP ps []) = rowsR k ps := by
  have e := rws_eq (k := k) (ps := ps) hk (fun p hp => (h p hp).se) k.length [] (by simp)
  have e' : rwsP k ps k.length 0 (leftsP ps []) = (cmpR k).filter (goesB ps []) := by simpa using e
  rw [e', ← cmp_all]
  unfold rowsR
  refine List.filter_congr fun t ht => ?_
  have hm := (allR_mem (k := k) k.length (Nat.le_refl _) hk t)
  rw [List.take_length] at hm
  obtain ⟨h1, h2, h3⟩ := hm.mp ht
  rw [Bool.eq_iff_iff, goes_keeps h1 h, fitsB_iff h1 h2]
  exact ⟨fun q => ⟨h2, h1, h3, q⟩, fun f => f.kp⟩
theorem lefts_nil (ps : List Pr) : leftsP ps [] = ps.map fun _ => none := by
  unfold leftsP leftP
  refine List.map_congr_left fun p _ => ?_
  rw [if_neg (by simp)]
end Fl
set_option Elab.async false
set_option linter.all false
set_option maxRecDepth 100000
set_option maxHeartbeats 1000000
namespace Fl
open L2
/-! started, ended, steps: what they reckon -/
theorem isnt_in {s : Sto} {i : Int} : isntG s (.int i) .non = .val (.bl true) s := rfl
theorem isnt_tup {s : Sto} {ds : List D} : isntG s (.tup ds) .non = .val (.bl true) s := rfl
def lD : Option Nat → D
  | none => .non
  | some n => .int (n : Int)
theorem started_turn {p : Pr} {d : Nat} {o : Option Nat} {acc : List D} {s : Sto} {a0 a2 a4 a5 a6 a7 a8 a9 : Option D} (kd : p.k = kOn ∨ p.k = kBy ∨ p.k = kFrom) (hacc : acc.length < 16000000) :
    match startP p d o with
    | none => turn (tupG [nameG 4, nameG 5]) l_started_1 (.tup [p.d, lD o]) [a0, some (.int (d : Int)), a2, some (.ob s.length), a4, a5, a6, a7, a8, a9] (s ++ [.lst acc]) = .rt .non (s ++ [.lst acc])
    | some o' => turn (tupG [nameG 4, nameG 5]) l_started_1 (.tup [p.d, lD o]) [a0, some (.int (d : Int)), a2, some (.ob s.length), a4, a5, a6, a7, a8, a9] (s ++ [.lst acc]) = .nx [a0, some (.int (d : Int)), a2, some (.ob s.length), some p.d, some (lD o'), some (.str p.k), some (.int ((p.s : Int) - 1)), some (.int ((p.c : Int) + 1)), some (.int (p.e : Int))] (s ++ [.lst (acc ++ [lD o'])]) := by
  obtain ⟨k, st, c, e⟩ := p
  have hst : (st : Int) - 1 + 1 = (st : Int) := by omega
  have happ : (s ++ [SO.lst acc])[s.length]? = some (.lst acc) := by simp
  have hset : ∀ y : D, (s ++ [SO.lst acc]).set s.length (.lst (acc ++ [y])) = s ++ [.lst (acc ++ [y])] := fun y => by simp
  generalize hS : s ++ [SO.lst acc] = S at happ hset ⊢
  unfold startP
  simp only
  have hap : ∀ y : D, appG S (.ob s.length) [y] = .val .non (s ++ [.lst (acc ++ [y])]) := fun y => by
    simp only [appG, happ, if_pos hacc, hset]
  have hown : isOwn S (.ob s.length) = true := by simp only [isOwn, happ]
  by_cases h1 : st = d
  · subst h1
    rw [if_pos rfl]
    simp only
    rw [if_neg (by omega)]
    have hc : ¬ ((c : Int) + 1 < 1) := by omega
    rcases kd with q | q | q <;> simp only at q <;> subst q <;>
      simp -implicitDefEqProofs [turn, l_started_1, Pr.d, lD, hst, hc, isnt_in, hown, hap, kOn, kBy, kFrom]
  · rw [if_neg h1]
    have h1' : ¬ ((st : Int) = (d : Int)) := by omega
    cases o with
    | none =>
      simp -implicitDefEqProofs [turn, l_started_1, Pr.d, lD, hst, h1', isnt_in, hown, hap]
    | some n =>
      simp only
      by_cases h2 : k ≠ kBy ∧ n < 1
      · rw [if_pos h2]
        obtain rfl : n = 0 := by omega
        rcases kd with q | q | q <;> simp only at q <;> subst q
        · simp -implicitDefEqProofs [turn, l_started_1, Pr.d, lD, hst, h1', isnt_in, hown, hap, kOn]
        · exact absurd rfl h2.1
        · simp -implicitDefEqProofs [turn, l_started_1, Pr.d, lD, hst, h1', isnt_in, hown, hap, kFrom]
      · rw [if_neg h2]
        rcases kd with q | q | q <;> simp only at q <;> subst q
        · have hn : ¬ ((n : Int) < 1) := fun z => h2 ⟨by decide, by omega⟩
          simp -implicitDefEqProofs [turn, l_started_1, Pr.d, lD, hst, h1', isnt_in, hown, hap, kOn, hn]
        · simp -implicitDefEqProofs [turn, l_started_1, Pr.d, lD, hst, h1', isnt_in, hown, hap, kBy]
        · have hn : ¬ ((n : Int) < 1) := fun z => h2 ⟨by decide, by omega⟩
          simp -implicitDefEqProofs [turn, l_started_1, Pr.d, lD, hst, h1', isnt_in, hown, hap, kFrom, hn]
theorem chk_app {s ex : Sto} : Chk s (s ++ ex) := fun k hk => .inl (List.getElem?_append_left hk)
theorem take_app {s ex : Sto} : (s ++ ex).take s.length = s := by simp
theorem lD_flats (os : List (Option Nat)) : flats (os.map lD) = true := by
  unfold flats
  rw [List.all_map, List.all_eq_true]
  intro o _
  cases o <;> rfl
theorem pairs_cons {x y : D} {xs ys : List D} : pairs (x :: xs) (y :: ys) = .tup [x, y] :: pairs xs ys := rfl
theorem started_loop {d : Nat} {s : Sto} {a0 a2 : Option D} : ∀ {ps : List Pr} {os : List (Option Nat)} {acc : List D} {a4 a5 a6 a7 a8 a9 : Option D}, os.length = ps.length → (∀ p ∈ ps, p.k = kOn ∨ p.k = kBy ∨ p.k = kFrom) → acc.length + ps.length < 16000000 →
    match startsP ps d os with
    | none => ∃ acc', loopS (tupG [nameG 4, nameG 5]) l_started_1 (pairs (ps.map Pr.d) (os.map lD)) [a0, some (.int (d : Int)), a2, some (.ob s.length), a4, a5, a6, a7, a8, a9] (s ++ [.lst acc]) = .rt .non (s ++ [.lst acc'])
    | some here => ∃ δ', loopS (tupG [nameG 4, nameG 5]) l_started_1 (pairs (ps.map Pr.d) (os.map lD)) [a0, some (.int (d : Int)), a2, some (.ob s.length), a4, a5, a6, a7, a8, a9] (s ++ [.lst acc]) = .nx δ' (s ++ [.lst (acc ++ here.map lD)]) ∧ δ'[3]? = some (some (.ob s.length))
  | [], [], acc, a4, a5, a6, a7, a8, a9, _, _, _ => by
    refine ⟨[a0, some (.int (d : Int)), a2, some (.ob s.length), a4, a5, a6, a7, a8, a9], ?_, rfl⟩
    simp [pairs]
  | [], _ :: _, _, _, _, _, _, _, _, e, _, _ => by simp at e
  | _ :: _, [], _, _, _, _, _, _, _, e, _, _ => by simp at e
  | p :: ps, o :: os, acc, a4, a5, a6, a7, a8, a9, e, hk, hl => by
    have ht := started_turn (p := p) (d := d) (o := o) (acc := acc) (s := s) (a0 := a0) (a2 := a2) (a4 := a4) (a5 := a5) (a6 := a6) (a7 := a7) (a8 := a8) (a9 := a9) (hk p (List.mem_cons_self ..)) (by simp at hl; omega)
    rw [startsP]
    cases hs : startP p d o with
    | none =>
      rw [hs] at ht
      simp only at ht ⊢
      refine ⟨acc, ?_⟩
      rw [List.map_cons, List.map_cons, pairs_cons]
      exact loopS_rt ht
    | some o' =>
      rw [hs] at ht
      simp only at ht ⊢
      have ih := started_loop (d := d) (s := s) (a0 := a0) (a2 := a2) (ps := ps) (os := os) (acc := acc ++ [lD o']) (a4 := some p.d) (a5 := some (lD o')) (a6 := some (.str p.k)) (a7 := some (.int ((p.s : Int) - 1))) (a8 := some (.int ((p.c : Int) + 1))) (a9 := some (.int (p.e : Int))) (by simpa using e) (fun q hq => hk q (List.mem_cons_of_mem _ hq)) (by simp at hl ⊢; omega)
      rw [List.map_cons, List.map_cons, pairs_cons, loopS_cons ht]
      cases hr : startsP ps d os with
      | none =>
        rw [hr] at ih
        exact ih
      | some here =>
        rw [hr] at ih
        simp only [Option.map_some] at ih ⊢
        obtain ⟨δ', h1, h2⟩ := ih
        exact ⟨δ', by rw [h1]; simp, h2⟩
/-- the answer as data -/
def ansD : Option (List (Option Nat)) → D
  | none => .non
  | some here => .tup (here.map lD)
theorem started_spec {ps : List Pr} {d : Nat} {os : List (Option Nat)} {s : Sto} (e : os.length = ps.length) (hk : ∀ p ∈ ps, p.k = kOn ∨ p.k = kBy ∨ p.k = kFrom) (hl : ps.length ≤ 1000) :
    m_started [.tup (ps.map Pr.d), .int (d : Int), .tup (os.map lD)] s = .val (ansD (startsP ps d os)) s := by
  have h := started_loop (d := d) (s := s) (a0 := some (.tup (ps.map Pr.d))) (a2 := some (.tup (os.map lD))) (ps := ps) (os := os) (acc := []) (a4 := none) (a5 := none) (a6 := none) (a7 := none) (a8 := none) (a9 := none) e hk (by simp; omega)
  cases hs : startsP ps d os with
  | none =>
    rw [hs] at h
    obtain ⟨acc', h⟩ := h
    simp -implicitDefEqProofs [m_started, fnF, b_started, N_started, startD, zipF, srcD, h, ansD, chk_app]
  | some here =>
    rw [hs] at h
    obtain ⟨δ', h, h3⟩ := h
    rw [List.nil_append] at h
    have hv : view (s ++ [SO.lst (here.map lD)]) (.ob s.length) = .lst (here.map lD) := view_ob (by simp) (lD_flats here)
    have ht : tupleG (s ++ [SO.lst (here.map lD)]) [.ob s.length] = .val (.tup (here.map lD)) (s ++ [SO.lst (here.map lD)]) := by
      simp only [tupleG, hv]
    have hvar : varF 3 δ' (s ++ [SO.lst (here.map lD)]) = .val (.ob s.length) (s ++ [SO.lst (here.map lD)]) := by
      simp only [varF, h3]
    simp -implicitDefEqProofs [m_started, fnF, b_started, N_started, startD, zipF, srcD, h, h3, ht, ansD, chk_app]
theorem ended_turn {p : Pr} {d x : Nat} {o : Option Nat} {acc : List D} {s : Sto} {a0 a3 a5 a6 a7 a8 a9 a10 : Option D} (kd : p.k = kOn ∨ p.k = kBy ∨ p.k = kFrom) (hx : x = 119 ∨ x = 102) (hacc : acc.length < 16000000) :
    match endP p d x o with
    | none => turn (tupG [nameG 5, nameG 6]) l_ended_1 (.tup [p.d, lD o]) [a0, some (.int (d : Int)), some (.str [x]), a3, some (.ob s.length), a5, a6, a7, a8, a9, a10] (s ++ [.lst acc]) = .rt .non (s ++ [.lst acc])
    | some o' => turn (tupG [nameG 5, nameG 6]) l_ended_1 (.tup [p.d, lD o]) [a0, some (.int (d : Int)), some (.str [x]), a3, some (.ob s.length), a5, a6, a7, a8, a9, a10] (s ++ [.lst acc]) = .nx [a0, some (.int (d : Int)), some (.str [x]), a3, some (.ob s.length), some p.d, some (lD o'), some (.str p.k), some (.int ((p.s : Int) - 1)), some (.int ((p.c : Int) + 1)), some (.int (p.e : Int))] (s ++ [.lst (acc ++ [lD o'])]) := by
  obtain ⟨k, st, c, e⟩ := p
  have happ : (s ++ [SO.lst acc])[s.length]? = some (.lst acc) := by simp
  have hset : ∀ y : D, (s ++ [SO.lst acc]).set s.length (.lst (acc ++ [y])) = s ++ [.lst (acc ++ [y])] := fun y => by simp
  generalize hS : s ++ [SO.lst acc] = S at happ hset ⊢
  have hap : ∀ y : D, appG S (.ob s.length) [y] = .val .non (s ++ [.lst (acc ++ [y])]) := fun y => by
    simp only [appG, happ, if_pos hacc, hset]
  have hown : isOwn S (.ob s.length) = true := by simp only [isOwn, happ]
  unfold endP
  cases o with
  | none =>
    simp -implicitDefEqProofs [turn, l_ended_1, Pr.d, lD, hown, hap]
  | some n =>
    simp only
    have core : ∀ (m : Nat) (y : D), y = .int (m : Int) → (∀ S, (fnB maxG (con (cF (.int 0)) (con (bin subG (varF 6) (fnB intOf (con (bin eqG (varF 2) (cF (.str [119]))) (nil)))) (nil)))) [a0, some (.int (d : Int)), some (.str [x]), a3, some (.ob s.length), some (.tup [.str k, .int ((st : Int) - 1), .int ((c : Int) + 1), .int (e : Int)]), some (.int (n : Int)), some (.str k), some (.int ((st : Int) - 1)), some (.int ((c : Int) + 1)), some (.int (e : Int))] S = .val y S) →
        match (if d = e then (if k ≠ kFrom ∧ 0 < m then none else some none) else some (some m) : Option (Option Nat)) with
        | none => turn (tupG [nameG 5, nameG 6]) l_ended_1 (.tup [.tup [.str k, .int ((st : Int) - 1), .int ((c : Int) + 1), .int (e : Int)], .int (n : Int)]) [a0, some (.int (d : Int)), some (.str [x]), a3, some (.ob s.length), a5, a6, a7, a8, a9, a10] S = .rt .non S
        | some o' => turn (tupG [nameG 5, nameG 6]) l_ended_1 (.tup [.tup [.str k, .int ((st : Int) - 1), .int ((c : Int) + 1), .int (e : Int)], .int (n : Int)]) [a0, some (.int (d : Int)), some (.str [x]), a3, some (.ob s.length), a5, a6, a7, a8, a9, a10] S = .nx [a0, some (.int (d : Int)), some (.str [x]), a3, some (.ob s.length), some (.tup [.str k, .int ((st : Int) - 1), .int ((c : Int) + 1), .int (e : Int)]), some (lD o'), some (.str k), some (.int ((st : Int) - 1)), some (.int ((c : Int) + 1)), some (.int (e : Int))] (s ++ [.lst (acc ++ [lD o'])]) := by
      intro m y hy hm
      subst hy
      have hu : l_ended_1 = seqS (asgS' (varF 5) (tupG [(nameG 7), (nameG 8), (nameG 9), (nameG 10)]))
        (seqS (ifS (tst (bin isntG (varF 6) (cF .non))) (seqS (setS 6 (fnB maxG (con (cF (.int 0)) (con (bin subG (varF 6) (fnB intOf (con (bin eqG (varF 2) (cF (.str [119]))) (nil)))) (nil)))))
        (ifS (tst (bin eqG (varF 1) (varF 10))) (seqS (ifS (andT (tst (bin neG (varF 7) (cF (.str [102, 114, 111, 109])))) (tst (bin gtG (varF 6) (cF (.int 0))))) (retS (cF .non)) (passS))
        (setS 6 (cF .non))) (passS))) (passS))
        (dropS (meB' isOwn appG (varF 4) (con (varF 6) (nil))))) := rfl
      generalize (fnB maxG (con (cF (.int 0)) (con (bin subG (varF 6) (fnB intOf (con (bin eqG (varF 2) (cF (.str [119]))) (nil)))) (nil)))) = MX at hm hu
      by_cases h1 : d = e
      · subst h1
        rw [if_pos rfl]
        by_cases h2 : k ≠ kFrom ∧ 0 < m
        · rw [if_pos h2]
          have h3 : ¬ k = [102, 114, 111, 109] := h2.1
          have h4 : (0 : Int) < (m : Int) := by omega
          simp -implicitDefEqProofs [turn, hu, hm, isnt_in, h3, h4, h2.2]
        · rw [if_neg h2]
          by_cases h3 : k = [102, 114, 111, 109]
          · subst h3
            simp -implicitDefEqProofs [turn, hu, hm, isnt_in, hown, hap, lD]
          · obtain rfl : m = 0 := by
              by_cases z : 0 < m
              · exact absurd ⟨h3, z⟩ h2
              · omega
            simp -implicitDefEqProofs [turn, hu, hm, isnt_in, hown, hap, lD, h3]
      · rw [if_neg h1]
        have h1' : ¬ ((d : Int) = (e : Int)) := by omega
        simp -implicitDefEqProofs [turn, hu, hm, isnt_in, hown, hap, lD, h1']
    rcases hx with rfl | rfl
    · refine core (n - 1) _ rfl fun S => ?_
      have h : (if (n : Int) - 1 > 0 then (n : Int) - 1 else 0) = ((n - 1 : Nat) : Int) := by split <;> omega
      have hm : maxG S [.int 0, .int ((n : Int) - 1)] = .val (.int ((n - 1 : Nat) : Int)) S := by rw [← h]; rfl
      simp -implicitDefEqProofs [hm]
    · refine core (n - 0) _ rfl fun S => ?_
      have h : (if (n : Int) > 0 then (n : Int) else 0) = (n : Int) := by split <;> omega
      have hm : maxG S [.int 0, .int (n : Int)] = .val (.int (n : Int)) S := by
        have : maxG S [.int 0, .int (n : Int)] = .val (.int (if (n : Int) > 0 then (n : Int) else 0)) S := rfl
        rw [this, h]
      simp -implicitDefEqProofs [hm]
theorem ended_loop {d x : Nat} {s : Sto} {a0 a3 : Option D} (hx : x = 119 ∨ x = 102) : ∀ {ps : List Pr} {os : List (Option Nat)} {acc : List D} {a5 a6 a7 a8 a9 a10 : Option D}, os.length = ps.length → (∀ p ∈ ps, p.k = kOn ∨ p.k = kBy ∨ p.k = kFrom) → acc.length + ps.length < 16000000 →
    match endsP ps d x os with
    | none => ∃ acc', loopS (tupG [nameG 5, nameG 6]) l_ended_1 (pairs (ps.map Pr.d) (os.map lD)) [a0, some (.int (d : Int)), some (.str [x]), a3, some (.ob s.length), a5, a6, a7, a8, a9, a10] (s ++ [.lst acc]) = .rt .non (s ++ [.lst acc'])
    | some here => ∃ δ', loopS (tupG [nameG 5, nameG 6]) l_ended_1 (pairs (ps.map Pr.d) (os.map lD)) [a0, some (.int (d : Int)), some (.str [x]), a3, some (.ob s.length), a5, a6, a7, a8, a9, a10] (s ++ [.lst acc]) = .nx δ' (s ++ [.lst (acc ++ here.map lD)]) ∧ δ'[4]? = some (some (.ob s.length))
  | [], [], acc, a5, a6, a7, a8, a9, a10, _, _, _ => by
    refine ⟨[a0, some (.int (d : Int)), some (.str [x]), a3, some (.ob s.length), a5, a6, a7, a8, a9, a10], ?_, rfl⟩
    simp [pairs]
  | [], _ :: _, _, _, _, _, _, _, _, e, _, _ => by simp at e
  | _ :: _, [], _, _, _, _, _, _, _, e, _, _ => by simp at e
  | p :: ps, o :: os, acc, a5, a6, a7, a8, a9, a10, e, hk, hl => by
    have ht := ended_turn (p := p) (d := d) (x := x) (o := o) (acc := acc) (s := s) (a0 := a0) (a3 := a3) (a5 := a5) (a6 := a6) (a7 := a7) (a8 := a8) (a9 := a9) (a10 := a10) (hk p (List.mem_cons_self ..)) hx (by simp at hl; omega)
    rw [endsP]
    cases hs : endP p d x o with
    | none =>
      rw [hs] at ht
      simp only at ht ⊢
      refine ⟨acc, ?_⟩
      rw [List.map_cons, List.map_cons, pairs_cons]
      exact loopS_rt ht
    | some o' =>
      rw [hs] at ht
      simp only at ht ⊢
      have ih := ended_loop (d := d) (x := x) (s := s) (a0 := a0) (a3 := a3) hx (ps := ps) (os := os) (acc := acc ++ [lD o']) (a5 := some p.d) (a6 := some (lD o')) (a7 := some (.str p.k)) (a8 := some (.int ((p.s : Int) - 1))) (a9 := some (.int ((p.c : Int) + 1))) (a10 := some (.int (p.e : Int))) (by simpa using e) (fun q hq => hk q (List.mem_cons_of_mem _ hq)) (by simp at hl ⊢; omega)
      rw [List.map_cons, List.map_cons, pairs_cons, loopS_cons ht]
      cases hr : endsP ps d x os with
      | none =>
        rw [hr] at ih
        exact ih
      | some here =>
        rw [hr] at ih
        simp only [Option.map_some] at ih ⊢
        obtain ⟨δ', h1, h2⟩ := ih
        exact ⟨δ', by rw [h1]; simp, h2⟩
theorem ended_spec {ps : List Pr} {d x : Nat} {os : List (Option Nat)} {s : Sto} (hx : x = 119 ∨ x = 102) (e : os.length = ps.length) (hk : ∀ p ∈ ps, p.k = kOn ∨ p.k = kBy ∨ p.k = kFrom) (hl : ps.length ≤ 1000) :
    m_ended [.tup (ps.map Pr.d), .int (d : Int), .str [x], .tup (os.map lD)] s = .val (ansD (endsP ps d x os)) s := by
  have h := ended_loop (d := d) (x := x) (s := s) (a0 := some (.tup (ps.map Pr.d))) (a3 := some (.tup (os.map lD))) hx (ps := ps) (os := os) (acc := []) (a5 := none) (a6 := none) (a7 := none) (a8 := none) (a9 := none) (a10 := none) e hk (by simp; omega)
  cases hs : endsP ps d x os with
  | none =>
    rw [hs] at h
    obtain ⟨acc', h⟩ := h
    simp -implicitDefEqProofs [m_ended, fnF, b_ended, N_ended, startD, zipF, srcD, h, ansD, chk_app]
  | some here =>
    rw [hs] at h
    obtain ⟨δ', h, h3⟩ := h
    rw [List.nil_append] at h
    have hv : view (s ++ [SO.lst (here.map lD)]) (.ob s.length) = .lst (here.map lD) := view_ob (by simp) (lD_flats here)
    have ht : tupleG (s ++ [SO.lst (here.map lD)]) [.ob s.length] = .val (.tup (here.map lD)) (s ++ [SO.lst (here.map lD)]) := by
      simp only [tupleG, hv]
    simp -implicitDefEqProofs [m_ended, fnF, b_ended, N_ended, startD, zipF, srcD, h, h3, ht, ansD, chk_app]
/-! ### steps -/
def tabO (k : List Nat) (ps : List Pr) (w : Nat) : SO := .ins 0 [.str k, .tup (ps.map Pr.d), .ob w]
theorem tab0 {k : List Nat} {ps : List Pr} {w t i : Nat} {δ : Sl} {s : Sto} (hs : s[t]? = some (tabO k ps w)) (h : δ[i]? = some (some (.ob t))) : fldF 0 0 (varF i) δ s = .val (.str k) s := by
  have e : fldF 0 0 (varF i) δ s = (varF i δ s).bind fun x s1 => match x with
    | .ob k => match s1[k]? with
      | some (.ins c' ds) => if c' = 0 then match ds[0]? with
        | some d => .val d s1
        | none => .stuck
        else .stuck
      | _ => .stuck
    | _ => .stuck := rfl
  rw [e]
  simp -implicitDefEqProofs only [varF, h, O.bind_val, hs, tabO]
  rfl
theorem tab1 {k : List Nat} {ps : List Pr} {w t i : Nat} {δ : Sl} {s : Sto} (hs : s[t]? = some (tabO k ps w)) (h : δ[i]? = some (some (.ob t))) : fldF 0 1 (varF i) δ s = .val (.tup (ps.map Pr.d)) s := by
  have e : fldF 0 1 (varF i) δ s = (varF i δ s).bind fun x s1 => match x with
    | .ob k => match s1[k]? with
      | some (.ins c' ds) => if c' = 0 then match ds[1]? with
        | some d => .val d s1
        | none => .stuck
        else .stuck
      | _ => .stuck
    | _ => .stuck := rfl
  rw [e]
  simp -implicitDefEqProofs only [varF, h, O.bind_val, hs, tabO]
  rfl
theorem tab2 {k : List Nat} {ps : List Pr} {w t i : Nat} {δ : Sl} {s : Sto} (hs : s[t]? = some (tabO k ps w)) (h : δ[i]? = some (some (.ob t))) : fldF 0 2 (varF i) δ s = .val (.ob w) s := by
  have e : fldF 0 2 (varF i) δ s = (varF i δ s).bind fun x s1 => match x with
    | .ob k => match s1[k]? with
      | some (.ins c' ds) => if c' = 0 then match ds[2]? with
        | some d => .val d s1
        | none => .stuck
        else .stuck
      | _ => .stuck
    | _ => .stuck := rfl
  rw [e]
  simp -implicitDefEqProofs only [varF, h, O.bind_val, hs, tabO]
  rfl
def stD (st : Nat × List (Option Nat)) : D := .tup [.str [st.1], .tup (st.2.map lD)]
structure PsOk (k : List Nat) (ps : List Pr) : Prop where
  kn : Kn k
  kl : k.length ≤ 1000
  pl : ps.length ≤ 1000
  ok : ∀ p ∈ ps, p.ok k.length
theorem endsP_len {d x : Nat} : ∀ {ps : List Pr} {os here : List (Option Nat)}, endsP ps d x os = some here → os.length = ps.length → here.length = ps.length
  | [], [], here, h, _ => by simp [endsP] at h; subst h; rfl
  | [], _ :: _, _, _, e => by simp at e
  | _ :: _, [], _, _, e => by simp at e
  | p :: ps, o :: os, here, h, e => by
    rw [endsP] at h
    cases hs : endP p d x o with
    | none => rw [hs] at h; cases h
    | some o' =>
      rw [hs] at h
      obtain ⟨r, hr, rfl⟩ := Option.map_eq_some_iff.mp h
      simp [endsP_len hr (by simpa using e)]
theorem startsP_len {d : Nat} : ∀ {ps : List Pr} {os here : List (Option Nat)}, startsP ps d os = some here → os.length = ps.length → here.length = ps.length
  | [], [], here, h, _ => by simp [startsP] at h; subst h; rfl
  | [], _ :: _, _, _, e => by simp at e
  | _ :: _, [], _, _, e => by simp at e
  | p :: ps, o :: os, here, h, e => by
    rw [startsP] at h
    cases hs : startP p d o with
    | none => rw [hs] at h; cases h
    | some o' =>
      rw [hs] at h
      obtain ⟨r, hr, rfl⟩ := Option.map_eq_some_iff.mp h
      simp [startsP_len hr (by simpa using e)]
theorem steps_turn {k : List Nat} {ps : List Pr} {w t d x : Nat} {here : List (Option Nat)} {s : Sto} {acc : List D} {a2 a5 a6 : Option D} (c : PsOk k ps) (hs : s[t]? = some (tabO k ps w)) (hd : d < k.length) (hx : x = 119 ∨ x = 102) (hh : here.length = ps.length) (hacc : acc.length < 16000000) :
    turn (nameG 5) l_Table_steps_1 (.str [x]) [some (.ob t), some (.int (d : Int)), a2, some (.tup (here.map lD)), some (.ob s.length), a5, a6] (s ++ [.lst acc]) =
      .nx [some (.ob t), some (.int (d : Int)), a2, some (.tup (here.map lD)), some (.ob s.length), some (.str [x]), if dayK k d x = true then some (ansD (endsP ps d x here)) else a6]
        (s ++ [.lst (acc ++ ((if dayK k d x = true then (endsP ps d x here).map (Prod.mk x) else none).toList.map stD))]) := by
  have ht : t < s.length := (List.getElem?_eq_some_iff.mp hs).1
  have hs2 : ∀ z : List D, (s ++ [SO.lst z])[t]? = some (tabO k ps w) := fun z => by rw [List.getElem?_append_left ht]; exact hs
  have happ : (s ++ [SO.lst acc])[s.length]? = some (.lst acc) := by simp
  have hset : ∀ y : D, (s ++ [SO.lst acc]).set s.length (.lst (acc ++ [y])) = s ++ [.lst (acc ++ [y])] := fun y => by simp
  have hs3 := hs2 acc
  generalize hS : s ++ [SO.lst acc] = S at happ hset hs3 ⊢
  have hap : ∀ y : D, appG S (.ob s.length) [y] = .val .non (s ++ [.lst (acc ++ [y])]) := fun y => by
    simp only [appG, happ, if_pos hacc, hset]
  have hown : isOwn S (.ob s.length) = true := by simp only [isOwn, happ]
  have f0 : ∀ {δ : Sl}, δ[0]? = some (some (.ob t)) → fldF 0 0 (varF 0) δ S = .val (.str k) S := fun h => tab0 hs3 h
  have f1 : ∀ {δ : Sl}, δ[0]? = some (some (.ob t)) → fldF 0 1 (varF 0) δ S = .val (.tup (ps.map Pr.d)) S := fun h => tab1 hs3 h
  have hen := ended_spec (ps := ps) (d := d) (x := x) (os := here) (s := S) hx hh (fun p hp => (c.ok p hp).kd) c.pl
  have hi : ixG S (.str k) (.int (d : Int)) = .val (.str [k[d]]) S := ixG_str (by have := c.kl; omega) (atI_nat (List.getElem?_eq_getElem hd))
  have hin : inG S (.str [k[d]]) (.tup [.str [x], .str [63]]) = .val (.bl (x == k[d] || 63 == k[d])) S := by simp [inG, inB, atomD, isIn]
  have hdk : dayK k d x = (x == k[d] || 63 == k[d]) := by
    unfold dayK
    rw [List.getElem?_eq_getElem hd, Bool.eq_iff_iff]
    simp only [Bool.or_eq_true, beq_iff_eq, Option.some.injEq]
    exact ⟨fun h => h.imp Eq.symm Eq.symm, fun h => h.imp Eq.symm Eq.symm⟩
  rw [← hdk] at hin
  cases hk : dayK k d x with
  | false =>
    rw [hk] at hin
    simp -implicitDefEqProofs [turn, l_Table_steps_1, f0, hi, hin, hS]
  | true =>
    rw [hk] at hin
    cases he : endsP ps d x here with
    | none =>
      rw [he] at hen
      simp only [ansD] at hen
      simp -implicitDefEqProofs [turn, l_Table_steps_1, f0, f1, hi, hin, hen, hS, ansD]
    | some os' =>
      rw [he] at hen
      simp only [ansD] at hen
      simp -implicitDefEqProofs [turn, l_Table_steps_1, f0, f1, hi, hin, hen, ansD, isnt_tup, hown, hap, stD]
theorem dfz_flats (n : Nat) (s : Sto) : ∀ {ds : List D}, flats ds = true → ds.mapM (dfz n s 2) = some ds
  | [], _ => rfl
  | d :: ds, h => by
    simp only [flats, List.all_cons, Bool.and_eq_true] at h
    have h1 : dfz n s 2 d = some d := by cases d <;> first | rfl | exact absurd h.1 (by simp [flat])
    rw [List.mapM_cons, h1, dfz_flats n s (ds := ds) h.2]
    rfl
theorem stD_flats (l : List (Nat × List (Option Nat))) : flats (l.map stD) = true := by
  unfold flats
  rw [List.all_map, List.all_eq_true]
  intro o _; rfl
theorem out_list {s : Sto} {ds : List D} (f : flats ds = true) : outF s (.rt (.ob s.length) (s ++ [.lst ds])) = .val (.lst ds) s := by
  have hz : dfz s.length (s ++ [.lst ds]) 3 (.ob s.length) = some (.lst ds) := by
    unfold dfz
    simp only [if_pos (Nat.le_refl _)]
    have : (s ++ [SO.lst ds])[s.length]? = some (.lst ds) := by simp
    rw [this]
    simp only [dfz_flats s.length (s ++ [.lst ds]) f]
    rfl
  rw [outF_frz (by simp [low]) chk_app hz, take_app]
theorem steps_spec {k : List Nat} {ps : List Pr} {w t d : Nat} {os : List (Option Nat)} {s : Sto} (c : PsOk k ps) (hs : s[t]? = some (tabO k ps w)) (hd : d < k.length) (hh : os.length = ps.length) :
    m_Table_steps [.ob t, .int (d : Int), .tup (os.map lD)] s = .val (.lst ((stepsP k ps d os).map stD)) s := by
  have f1 : ∀ {δ : Sl}, δ[0]? = some (some (.ob t)) → fldF 0 1 (varF 0) δ s = .val (.tup (ps.map Pr.d)) s := fun h => tab1 hs h
  have hst := started_spec (ps := ps) (d := d) (os := os) (s := s) hh (fun p hp => (c.ok p hp).kd) c.pl
  unfold stepsP
  cases he : startsP ps d os with
  | none =>
    rw [he] at hst
    simp only [ansD] at hst
    have ho := out_list (s := s) (ds := []) rfl
    simp -implicitDefEqProofs [m_Table_steps, fnF, b_Table_steps, N_Table_steps, startD, f1, hst, ho]
  | some here =>
    rw [he] at hst
    simp only [ansD] at hst
    have hhere := startsP_len he hh
    have t1 := steps_turn (k := k) (ps := ps) (w := w) (t := t) (d := d) (x := 102) (here := here) (s := s) (acc := []) (a2 := some (.tup (os.map lD))) (a5 := none) (a6 := none) c hs hd (.inr rfl) hhere (by simp)
    rw [List.nil_append] at t1
    have hl1 : ((if dayK k d 102 = true then (endsP ps d 102 here).map (Prod.mk 102) else none).toList.map stD).length ≤ 1 := by
      cases (if dayK k d 102 = true then (endsP ps d 102 here).map (Prod.mk 102) else none) <;> simp
    have t2 := fun a6 => steps_turn (k := k) (ps := ps) (w := w) (t := t) (d := d) (x := 119) (here := here) (s := s) (acc := (if dayK k d 102 = true then (endsP ps d 102 here).map (Prod.mk 102) else none).toList.map stD) (a2 := some (.tup (os.map lD))) (a5 := some (.str [102])) (a6 := a6) c hs hd (.inl rfl) hhere (by omega)
    have hL : (if dayK k d 102 = true then (endsP ps d 102 here).map (Prod.mk 102) else none).toList.map stD ++ (if dayK k d 119 = true then (endsP ps d 119 here).map (Prod.mk 119) else none).toList.map stD = ([102, 119].filterMap fun x => if dayK k d x = true then (endsP ps d x here).map (Prod.mk x) else none).map stD := by
      rw [← List.map_append]
      congr 1
      simp only [List.filterMap_cons, List.filterMap_nil]
      cases (if dayK k d 102 = true then (endsP ps d 102 here).map (Prod.mk 102) else none) <;> cases (if dayK k d 119 = true then (endsP ps d 119 here).map (Prod.mk 119) else none) <;> rfl
    have t3 := t2 (if dayK k d 102 = true then some (ansD (endsP ps d 102 here)) else none)
    rw [hL] at t3
    have hloop := (loopS_cons (xs := [.str [119]]) t1).trans ((loopS_cons (xs := []) t3).trans loopS_nil)
    generalize (if dayK k d 119 = true then some (ansD (endsP ps d 119 here)) else (if dayK k d 102 = true then some (ansD (endsP ps d 102 here)) else none) : Option D) = a6 at hloop
    have ho := out_list (s := s) (stD_flats ([102, 119].filterMap fun x => if dayK k d x = true then (endsP ps d x here).map (Prod.mk x) else none))
    generalize hLL : ([102, 119].filterMap fun x => if dayK k d x = true then (endsP ps d x here).map (Prod.mk x) else none) = L at hloop ho
    simp -implicitDefEqProofs [m_Table_steps, fnF, b_Table_steps, N_Table_steps, startD, f1, hst, isnt_tup, hloop, ho]
    rw [hLL]
end Fl
set_option Elab.async false
set_option linter.all false
set_option maxRecDepth 100000
set_option maxHeartbeats 1000000
namespace Fl
open L2 PySem
/-! the table's count, with its memory -/
def lK : Option Nat → NestedKey
  | none => .none
  | some n => .num (n : Int)
def keyN (d : Nat) (os : List (Option Nat)) : NestedKey := .tup [.num (d : Int), .tup (os.map lK)]
theorem dk_lD (o : Option Nat) : dk (lD o) = some (lK o) := by
  cases o <;> simp [lD, lK, dk]
theorem dks_lD : ∀ os : List (Option Nat), dks (os.map lD) = some (os.map lK)
  | [] => by simp [dks]
  | o :: os => by simp [dks, dk_lD, dks_lD os]
theorem dk_key (d : Nat) (os : List (Option Nat)) : dk (.tup [.int (d : Int), .tup (os.map lD)]) = some (keyN d os) := by
  simp [dk, dks, dks_lD, keyN]
theorem depth_lK : ∀ os : List (Option Nat), NestedKey.depthAll (os.map lK) = 0
  | [] => by simp [NestedKey.depthAll]
  | o :: os => by cases o <;> simp [NestedKey.depthAll, NestedKey.depth, lK, depth_lK os]
theorem key_depth (d : Nat) (os : List (Option Nat)) : (keyN d os).depth ≤ 8 := by
  simp [keyN, NestedKey.depth, NestedKey.depthAll, depth_lK]
theorem lK_inj {a b : Option Nat} (h : lK a = lK b) : a = b := by
  cases a <;> cases b <;> simp [lK] at h ⊢ <;> omega
theorem lKs_inj : ∀ {a b : List (Option Nat)}, a.map lK = b.map lK → a = b
  | [], [], _ => rfl
  | [], _ :: _, h => by simp at h
  | _ :: _, [], h => by simp at h
  | a :: as, b :: bs, h => by
    simp at h
    rw [lK_inj h.1, lKs_inj (a := as) (b := bs) (by simpa using h.2)]
theorem key_inj {d d' : Nat} {os os' : List (Option Nat)} (h : keyN d os = keyN d' os') : d = d' ∧ os = os' := by
  unfold keyN at h
  simp only [NestedKey.tup.injEq, List.cons.injEq, NestedKey.num.injEq, and_true] at h
  exact ⟨by omega, lKs_inj h.2⟩
/-! what may be left -/
def okL : List Pr → List (Option Nat) → Prop
  | p :: ps, o :: os => (∀ n, o = some n → n ≤ p.c + 1) ∧ okL ps os
  | [], [] => True
  | _, _ => False
theorem okL_len : ∀ {ps : List Pr} {os : List (Option Nat)}, okL ps os → os.length = ps.length
  | [], [], _ => rfl
  | [], _ :: _, h => h.elim
  | _ :: _, [], h => h.elim
  | _ :: ps, _ :: os, h => by simp [okL_len (ps := ps) (os := os) h.2]
theorem startP_ok {p : Pr} {d : Nat} {o o' : Option Nat} (h : ∀ n, o = some n → n ≤ p.c + 1) (e : startP p d o = some o') : ∀ n, o' = some n → n ≤ p.c + 1 := by
  unfold startP at e
  by_cases h1 : p.s = d
  · rw [if_pos h1] at e
    simp only at e
    split at e
    · cases e
    · cases e; intro n hn; cases hn; omega
  · rw [if_neg h1] at e
    cases o with
    | none => cases e; intro n hn; cases hn
    | some m =>
      have e2 : (if p.k ≠ kBy ∧ m < 1 then (none : Option (Option Nat)) else some (some m)) = some o' := e
      by_cases q : p.k ≠ kBy ∧ m < 1
      · rw [if_pos q] at e2; cases e2
      · rw [if_neg q] at e2
        have e3 := Option.some.inj e2
        rw [← e3]; exact h
theorem endP_ok {p : Pr} {d x : Nat} {o o' : Option Nat} (h : ∀ n, o = some n → n ≤ p.c + 1) (e : endP p d x o = some o') : ∀ n, o' = some n → n ≤ p.c + 1 := by
  unfold endP at e
  cases o with
  | none => cases e; intro n hn; cases hn
  | some m =>
    have e1 : (if d = p.e then (if p.k ≠ kFrom ∧ 0 < m - (if x = 119 then 1 else 0) then (none : Option (Option Nat)) else some none) else some (some (m - (if x = 119 then 1 else 0)))) = some o' := e
    by_cases q : d = p.e
    · rw [if_pos q] at e1
      by_cases q2 : p.k ≠ kFrom ∧ 0 < m - (if x = 119 then 1 else 0)
      · rw [if_pos q2] at e1; cases e1
      · rw [if_neg q2] at e1
        have e3 := Option.some.inj e1
        intro n hn
        rw [← e3] at hn; cases hn
    · rw [if_neg q] at e1
      have e3 := Option.some.inj e1
      intro n hn
      rw [← e3] at hn
      have := h m rfl
      have e2 := Option.some.inj hn
      omega
theorem startsP_ok {d : Nat} : ∀ {ps : List Pr} {os here : List (Option Nat)}, okL ps os → startsP ps d os = some here → okL ps here
  | [], [], here, _, e => by simp [startsP] at e; subst e; trivial
  | [], _ :: _, _, h, _ => h.elim
  | _ :: _, [], _, h, _ => h.elim
  | p :: ps, o :: os, here, h, e => by
    rw [startsP] at e
    cases hs : startP p d o with
    | none => rw [hs] at e; cases e
    | some o' =>
      rw [hs] at e
      obtain ⟨r, hr, rfl⟩ := Option.map_eq_some_iff.mp e
      exact ⟨startP_ok h.1 hs, startsP_ok h.2 hr⟩
theorem endsP_ok {d x : Nat} : ∀ {ps : List Pr} {os here : List (Option Nat)}, okL ps os → endsP ps d x os = some here → okL ps here
  | [], [], here, _, e => by simp [endsP] at e; subst e; trivial
  | [], _ :: _, _, h, _ => h.elim
  | _ :: _, [], _, h, _ => h.elim
  | p :: ps, o :: os, here, h, e => by
    rw [endsP] at e
    cases hs : endP p d x o with
    | none => rw [hs] at e; cases e
    | some o' =>
      rw [hs] at e
      obtain ⟨r, hr, rfl⟩ := Option.map_eq_some_iff.mp e
      exact ⟨endP_ok h.1 hs, endsP_ok h.2 hr⟩
theorem stepsP_ok {k : List Nat} {ps : List Pr} {d : Nat} {os : List (Option Nat)} (h : okL ps os) : ∀ st ∈ stepsP k ps d os, okL ps st.2 ∧ (st.1 = 102 ∨ st.1 = 119) := by
  intro st hst
  unfold stepsP at hst
  cases hs : startsP ps d os with
  | none => rw [hs] at hst; cases hst
  | some here =>
    rw [hs] at hst
    obtain ⟨x, hx, e⟩ := List.mem_filterMap.mp hst
    have hx2 : x = 102 ∨ x = 119 := by simpa using hx
    split at e
    · obtain ⟨r, hr, rfl⟩ := Option.map_eq_some_iff.mp e
      exact ⟨endsP_ok (startsP_ok h hs) hr, hx2⟩
    · cases e
def allL : List Pr → List (List (Option Nat))
  | [] => [[]]
  | p :: ps => (none :: (List.range (p.c + 2)).map some).flatMap fun o => (allL ps).map (o :: ·)
theorem mem_allL : ∀ {ps : List Pr} {os : List (Option Nat)}, okL ps os → os ∈ allL ps
  | [], [], _ => by simp [allL]
  | [], _ :: _, h => h.elim
  | _ :: _, [], h => h.elim
  | p :: ps, o :: os, h => by
    rw [allL, List.mem_flatMap]
    refine ⟨o, ?_, List.mem_map.mpr ⟨os, mem_allL h.2, rfl⟩⟩
    cases o with
    | none => exact List.mem_cons_self ..
    | some n => exact List.mem_cons_of_mem _ (List.mem_map.mpr ⟨n, List.mem_range.mpr (by have := h.1 n rfl; omega), rfl⟩)
def sizeL : List Pr → Nat
  | [] => 1
  | p :: ps => (p.c + 3) * sizeL ps
theorem allL_len : ∀ ps : List Pr, (allL ps).length = sizeL ps
  | [] => rfl
  | p :: ps => by
    rw [allL, List.length_flatMap, sizeL]
    have : (List.map (fun o : Option Nat => ((allL ps).map (o :: ·)).length) (none :: (List.range (p.c + 2)).map some)) = List.replicate (p.c + 3) (sizeL ps) := by
      rw [List.eq_replicate_iff]
      constructor
      · simp
      · intro b hb
        obtain ⟨o, _, rfl⟩ := List.mem_map.mp hb
        rw [List.length_map, allL_len ps]
    rw [this, List.sum_replicate_nat]
/-! the memory -/
structure Memo (k : List Nat) (ps : List Pr) (kvs : List (NestedKey × D)) : Prop where
  nd : (kvs.map (·.1)).Nodup
  right : ∀ z ∈ kvs, ∃ d os, z.1 = keyN d os ∧ d < k.length ∧ okL ps os ∧ z.2 = .int (cntP k ps (k.length - d) d os : Nat)
theorem nodup_sub_len {α : Type} [DecidableEq α] : ∀ {l m : List α}, l.Nodup → (∀ x ∈ l, x ∈ m) → l.length ≤ m.length
  | [], _, _, _ => Nat.zero_le _
  | x :: l, m, h, s => by
    have hn := List.nodup_cons.mp h
    have hx := s x (List.mem_cons_self ..)
    have := nodup_sub_len (l := l) (m := m.erase x) hn.2 fun y hy => by
      have hne : y ≠ x := fun e => hn.1 (e ▸ hy)
      exact (List.mem_erase_of_ne hne).mpr (s y (List.mem_cons_of_mem _ hy))
    rw [List.length_erase_of_mem hx] at this
    have hpos : 0 < m.length := List.length_pos_of_mem hx
    simp only [List.length_cons]; omega
theorem Memo.len {k : List Nat} {ps : List Pr} {kvs : List (NestedKey × D)} (h : Memo k ps kvs) : kvs.length ≤ k.length * sizeL ps := by
  have := nodup_sub_len (l := kvs.map (·.1)) (m := (List.range k.length).flatMap fun d => (allL ps).map fun os => keyN d os) h.nd fun x hx => by
    obtain ⟨z, hz, rfl⟩ := List.mem_map.mp hx
    obtain ⟨d, os, e, hd, ho, _⟩ := h.right z hz
    rw [e, List.mem_flatMap]
    exact ⟨d, List.mem_range.mpr hd, List.mem_map.mpr ⟨os, mem_allL ho, rfl⟩⟩
  rw [List.length_map, List.length_flatMap] at this
  have e : (List.map (fun d => ((allL ps).map fun os => keyN d os).length) (List.range k.length)) = List.replicate k.length (sizeL ps) := by
    rw [List.eq_replicate_iff]
    constructor
    · simp
    · intro b hb
      obtain ⟨o, _, rfl⟩ := List.mem_map.mp hb
      rw [List.length_map, allL_len]
  rw [e, List.sum_replicate_nat] at this
  exact this
theorem getK_mem {kvs : List (NestedKey × D)} {k : NestedKey} {v : D} (h : getK kvs k = some v) : (k, v) ∈ kvs := by
  induction kvs with
  | nil => cases h
  | cons p kvs ih =>
    rw [getK_cons] at h
    by_cases e : p.1 = k
    · rw [if_pos e] at h
      cases h
      exact List.mem_cons.mpr (.inl (by rw [← e]))
    · rw [if_neg e] at h
      exact List.mem_cons_of_mem _ (ih h)
theorem Memo.get {k : List Nat} {ps : List Pr} {kvs : List (NestedKey × D)} (h : Memo k ps kvs) {d : Nat} {os : List (Option Nat)} {v : D} (e : getK kvs (keyN d os) = some v) : v = .int (cntP k ps (k.length - d) d os : Nat) := by
  obtain ⟨d', os', e1, _, _, e2⟩ := h.right _ (getK_mem e)
  obtain ⟨rfl, rfl⟩ := key_inj e1
  exact e2
theorem Memo.put {k : List Nat} {ps : List Pr} {kvs : List (NestedKey × D)} (h : Memo k ps kvs) {d : Nat} {os : List (Option Nat)} (hd : d < k.length) (ho : okL ps os) : Memo k ps (putK kvs (keyN d os) (.int (cntP k ps (k.length - d) d os : Nat))) ∧
    getK (putK kvs (keyN d os) (.int (cntP k ps (k.length - d) d os : Nat))) (keyN d os) = some (.int (cntP k ps (k.length - d) d os : Nat)) := by
  unfold putK
  cases hg : getK kvs (keyN d os) with
  | none =>
    rw [if_neg (by simp)]
    refine ⟨⟨?_, fun z hz => ?_⟩, ?_⟩
    · rw [List.map_append, List.nodup_append]
      refine ⟨h.nd, by simp, fun x hx y hy => ?_⟩
      obtain rfl : y = keyN d os := by simpa using hy
      exact fun e => mem_getK hg (e ▸ hx)
    · rcases List.mem_append.mp hz with q | q
      · exact h.right z q
      · obtain rfl : z = (keyN d os, .int (cntP k ps (k.length - d) d os : Nat)) := by simpa using q
        exact ⟨d, os, rfl, hd, ho, rfl⟩
    · have : ∀ l : List (NestedKey × D), getK l (keyN d os) = none → getK (l ++ [(keyN d os, .int (cntP k ps (k.length - d) d os : Nat))]) (keyN d os) = some (.int (cntP k ps (k.length - d) d os : Nat)) := by
        intro l
        induction l with
        | nil => intro _; rw [List.nil_append, getK_cons, if_pos rfl]
        | cons p l ih =>
          intro e
          rw [getK_cons] at e
          by_cases q : p.1 = keyN d os
          · rw [if_pos q] at e; cases e
          · rw [if_neg q] at e
            rw [List.cons_append, getK_cons, if_neg q]
            exact ih e
      exact this kvs hg
  | some v =>
    rw [if_pos (by simp)]
    have hv := h.get hg
    have e : (kvs.map fun p => if p.1 = keyN d os then (p.1, .int (cntP k ps (k.length - d) d os : Nat)) else p) = kvs := by
      have : ∀ p ∈ kvs, (if p.1 = keyN d os then (p.1, D.int (cntP k ps (k.length - d) d os : Nat)) else p) = p := fun p hp => by
        by_cases q : p.1 = keyN d os
        · rw [if_pos q]
          obtain ⟨d', os', e1, _, _, e2⟩ := h.right p hp
          obtain ⟨rfl, rfl⟩ := key_inj (q.symm.trans e1)
          obtain ⟨p1, p2⟩ := p
          simp only at e2 ⊢
          rw [e2]
        · rw [if_neg q]
      rw [List.map_congr_left this, List.map_id'']
      intro _; rfl
    rw [e, hg, hv]
    exact ⟨h, rfl⟩
theorem set_same {s : Sto} {w : Nat} {o : SO} (h : s[w]? = some o) : s.set w o = s := by
  obtain ⟨hw, e⟩ := List.getElem?_eq_some_iff.mp h
  rw [← e, List.set_getElem_self]
theorem Memo.low {k : List Nat} {ps : List Pr} {kvs : List (NestedKey × D)} (h : Memo k ps kvs) (n : Nat) : lowO n (.dic kvs) = true := by
  show lows n (kvs.map (·.2)) = true
  unfold lows
  rw [List.all_map, List.all_eq_true]
  intro z hz
  obtain ⟨d, os, _, _, _, e⟩ := h.right z hz
  show Fl.low n z.2 = true
  rw [e]; rfl
theorem chk_dic {k : List Nat} {ps : List Pr} {kvs kvs' : List (NestedKey × D)} {s : Sto} {w : Nat} (hw : s[w]? = some (.dic kvs)) (h : Memo k ps kvs') : Chk s (s.set w (.dic kvs')) := fun j hj => by
  by_cases q : j = w
  · subst q
    exact .inr ⟨_, List.getElem?_set_self hj, h.low _⟩
  · rw [List.getElem?_set_ne (Ne.symm q)]; exact .inl rfl
theorem dic_in {kvs : List (NestedKey × D)} {s : Sto} {w d : Nat} {os : List (Option Nat)} (hw : s[w]? = some (.dic kvs)) : dicB s (.tup [.int (d : Int), .tup (os.map lD)]) (.ob w) = some (keyN d os, kvs) := by
  simp only [dicB, hw, dk_key, if_pos (key_depth d os)]
def sumC (k : List Nat) (ps : List Pr) (m d : Nat) (L : List (Nat × List (Option Nat))) : Nat := (L.map fun st => cntP k ps m (d + 1) st.2).sum
theorem count_loop {k : List Nat} {ps : List Pr} {t w m d : Nat} {os : List (Option Nat)} {R : FF} (htw : t ≠ w)
    (hR : ∀ (os' : List (Option Nat)) (s : Sto) (kvs : List (NestedKey × D)), okL ps os' → s[t]? = some (tabO k ps w) → s[w]? = some (.dic kvs) → Memo k ps kvs → ∃ kvs', R [.ob t, .int ((d : Int) + 1), .tup (os'.map lD)] s = .val (.int (cntP k ps m (d + 1) os' : Nat)) (s.set w (.dic kvs')) ∧ Memo k ps kvs') :
    ∀ (L : List (Nat × List (Option Nat))) (tot : Nat) (a4 a5 : Option D) (s : Sto) (kvs : List (NestedKey × D)), (∀ st ∈ L, okL ps st.2) → s[t]? = some (tabO k ps w) → s[w]? = some (.dic kvs) → Memo k ps kvs →
      ∃ kvs' b4 b5, loopS (tupG [nameG 4, nameG 5]) (l_Table_count_1 R) (L.map stD) [some (.ob t), some (.int (d : Int)), some (.tup (os.map lD)), some (.int (tot : Int)), a4, a5] s = .nx [some (.ob t), some (.int (d : Int)), some (.tup (os.map lD)), some (.int ((tot + sumC k ps m d L : Nat) : Int)), b4, b5] (s.set w (.dic kvs')) ∧ Memo k ps kvs'
  | [], tot, a4, a5, s, kvs, _, ht, hw, hm => ⟨kvs, a4, a5, by rw [set_same hw]; rfl, hm⟩
  | st :: L, tot, a4, a5, s, kvs, hL, ht, hw, hm => by
    obtain ⟨x, os'⟩ := st
    obtain ⟨kv1, e1, m1⟩ := hR os' s kvs (hL _ (List.mem_cons_self ..)) ht hw hm
    have ht1 : (s.set w (.dic kv1))[t]? = some (tabO k ps w) := by rw [List.getElem?_set_ne (Ne.symm htw)]; exact ht
    have hw1 : (s.set w (.dic kv1))[w]? = some (.dic kv1) := List.getElem?_set_self (List.getElem?_eq_some_iff.mp hw).1
    have turn1 : turn (tupG [nameG 4, nameG 5]) (l_Table_count_1 R) (stD (x, os')) [some (.ob t), some (.int (d : Int)), some (.tup (os.map lD)), some (.int (tot : Int)), a4, a5] s =
        .nx [some (.ob t), some (.int (d : Int)), some (.tup (os.map lD)), some (.int ((tot + cntP k ps m (d + 1) os' : Nat) : Int)), some (.str [x]), some (.tup (os'.map lD))] (s.set w (.dic kv1)) := by
      have hmeth : ∀ (b4 : Option D), methF 0 3 R (varF 0) (con (bin addG (varF 1) (cF (.int 1))) (con (varF 5) (nil))) [some (.ob t), some (.int (d : Int)), some (.tup (os.map lD)), some (.int (tot : Int)), b4, some (.tup (os'.map lD))] s = .val (.int (cntP k ps m (d + 1) os' : Nat)) (s.set w (.dic kv1)) := fun b4 => by
        unfold methF
        simp -implicitDefEqProofs [ht, tabO, e1]
      simp -implicitDefEqProofs [turn, l_Table_count_1, stD, hmeth]
    obtain ⟨kv2, b4, b5, e2, m2⟩ := count_loop htw hR L (tot + cntP k ps m (d + 1) os') (some (.str [x])) (some (.tup (os'.map lD))) (s.set w (.dic kv1)) kv1 (fun st hst => hL st (List.mem_cons_of_mem _ hst)) ht1 hw1 m1
    refine ⟨kv2, b4, b5, ?_, m2⟩
    rw [List.map_cons, loopS_cons turn1, e2, List.set_set]
    have : tot + sumC k ps m d ((x, os') :: L) = tot + cntP k ps m (d + 1) os' + sumC k ps m d L := by
      unfold sumC; simp only [List.map_cons, List.sum_cons]; omega
    rw [this]
theorem count_n {k : List Nat} {ps : List Pr} {t w : Nat} (c : PsOk k ps) (hsz : k.length * sizeL ps ≤ 16000000) (htw : t ≠ w) :
    ∀ (m f d : Nat) (os : List (Option Nat)) (s : Sto) (kvs : List (NestedKey × D)), d + m = k.length → m < f → okL ps os → s[t]? = some (tabO k ps w) → s[w]? = some (.dic kvs) → Memo k ps kvs →
      ∃ kvs', m_Table_count_n f [.ob t, .int (d : Int), .tup (os.map lD)] s = .val (.int (cntP k ps m d os : Nat)) (s.set w (.dic kvs')) ∧ Memo k ps kvs'
  | 0, 0, _, _, _, _, _, h, _, _, _, _ => by omega
  | m + 1, 0, _, _, _, _, _, h, _, _, _, _ => by omega
  | 0, f + 1, d, os, s, kvs, e, _, _, ht, hw, hm => by
    have hL : ∀ s, lenG s [.str k] = .val (.int k.length) s := fun s => lenG_str (by have := c.kl; omega)
    have f0 : ∀ {δ : Sl}, δ[0]? = some (some (.ob t)) → fldF 0 0 (varF 0) δ s = .val (.str k) s := fun h => tab0 ht h
    have hd : (d : Int) = (k.length : Int) := by omega
    refine ⟨kvs, ?_, hm⟩
    rw [set_same hw, m_Table_count_n]
    simp -implicitDefEqProofs [fnF, b_Table_count, N_Table_count, startD, f0, hL, hd, cntP]
  | m + 1, f + 1, d, os, s, kvs, e, hf, ho, ht, hw, hm => by
    have hL : ∀ s, lenG s [.str k] = .val (.int k.length) s := fun s => lenG_str (by have := c.kl; omega)
    have f0 : ∀ {δ : Sl}, δ[0]? = some (some (.ob t)) → fldF 0 0 (varF 0) δ s = .val (.str k) s := fun h => tab0 ht h
    have f2 : ∀ {δ : Sl}, δ[0]? = some (some (.ob t)) → fldF 0 2 (varF 0) δ s = .val (.ob w) s := fun h => tab2 ht h
    have hdk : d < k.length := by omega
    have hd : ¬ (d : Int) = (k.length : Int) := by omega
    have hmd : k.length - d = m + 1 := by omega
    have hb := dic_in (d := d) (os := os) hw
    rw [m_Table_count_n]
    cases hg : getK kvs (keyN d os) with
    | some v =>
      have hv := hm.get hg
      rw [hmd] at hv
      subst hv
      have hin : inDk not s (.tup [.int (d : Int), .tup (os.map lD)]) (.ob w) = .val (.bl false) s := by
        simp only [inDk, hb, hg]; rfl
      have hix : ixDk s (.ob w) (.tup [.int (d : Int), .tup (os.map lD)]) = .val (.int (cntP k ps (m + 1) d os : Nat)) s := by
        simp only [ixDk, hb, hg]
      refine ⟨kvs, ?_, hm⟩
      rw [set_same hw]
      simp -implicitDefEqProofs [fnF, b_Table_count, N_Table_count, startD, f0, f2, hL, hd, hin, hix]
    | none =>
      have hin : inDk not s (.tup [.int (d : Int), .tup (os.map lD)]) (.ob w) = .val (.bl true) s := by
        simp only [inDk, hb, hg]; rfl
      have hst := steps_spec (os := os) c ht hdk (okL_len ho)
      have hlp := count_loop (k := k) (ps := ps) (t := t) (w := w) (m := m) (d := d) (os := os) (R := m_Table_count_n f) htw (fun os' s' kv' h1 h2 h3 h4 => by
        have := count_n c hsz htw m f (d + 1) os' s' kv' (by omega) (by omega) h1 h2 h3 h4
        rw [show ((d + 1 : Nat) : Int) = (d : Int) + 1 by omega] at this
        exact this) (stepsP k ps d os) 0 none none s kvs (fun st hst => (stepsP_ok ho st hst).1) ht hw hm
      obtain ⟨kv1, b4, b5, e1, m1⟩ := hlp
      have hcnt : (0 + sumC k ps m d (stepsP k ps d os) : Nat) = cntP k ps (m + 1) d os := by rw [Nat.zero_add, cntP]; rfl
      rw [hcnt, show ((0 : Nat) : Int) = 0 from rfl] at e1
      have hmeth : methF 0 3 m_Table_steps (varF 0) (con (varF 1) (con (varF 2) (nil))) [some (.ob t), some (.int (d : Int)), some (.tup (os.map lD)), some (.int 0), none, none] s = .val (.lst ((stepsP k ps d os).map stD)) s := by
        unfold methF
        simp -implicitDefEqProofs [ht, tabO, hst]
      have ht1 : (s.set w (.dic kv1))[t]? = some (tabO k ps w) := by rw [List.getElem?_set_ne (Ne.symm htw)]; exact ht
      have hw1 : (s.set w (.dic kv1))[w]? = some (.dic kv1) := List.getElem?_set_self (List.getElem?_eq_some_iff.mp hw).1
      obtain ⟨m2, hg2⟩ := m1.put (d := d) (os := os) hdk ho
      rw [hmd] at m2 hg2
      generalize hkv2 : putK kv1 (keyN d os) (.int (cntP k ps (m + 1) d os : Nat)) = kv2 at m2 hg2
      have hlen : kv1.length ≤ 16000000 := Nat.le_trans m1.len hsz
      have hb1 := dic_in (d := d) (os := os) hw1
      have hset : ∀ {δ : Sl}, δ[0]? = some (some (.ob t)) → δ[1]? = some (some (.int (d : Int))) → δ[2]? = some (some (.tup (os.map lD))) →
          setD (fldF 0 2 (varF 0)) (tupE (con (varF 1) (con (varF 2) (nil)))) (.int (cntP k ps (m + 1) d os : Nat)) δ (s.set w (.dic kv1)) = .val δ (s.set w (.dic kv2)) := fun h0 h1 h2 => by
        unfold setD
        rw [tab2 ht1 h0]
        simp -implicitDefEqProofs [h1, h2, hb1, hlen, hkv2]
      have ht2 : (s.set w (.dic kv2))[t]? = some (tabO k ps w) := by rw [List.getElem?_set_ne (Ne.symm htw)]; exact ht
      have hw2 : (s.set w (.dic kv2))[w]? = some (.dic kv2) := List.getElem?_set_self (List.getElem?_eq_some_iff.mp hw).1
      have f22 : ∀ {δ : Sl}, δ[0]? = some (some (.ob t)) → fldF 0 2 (varF 0) δ (s.set w (.dic kv2)) = .val (.ob w) (s.set w (.dic kv2)) := fun h => tab2 ht2 h
      have hix : ixDk (s.set w (.dic kv2)) (.ob w) (.tup [.int (d : Int), .tup (os.map lD)]) = .val (.int (cntP k ps (m + 1) d os : Nat)) (s.set w (.dic kv2)) := by
        simp only [ixDk, dic_in (d := d) (os := os) hw2, hg2]
      have hck := chk_dic hw m2
      refine ⟨kv2, ?_, m2⟩
      generalize hS2 : s.set w (.dic kv2) = S2 at *
      generalize hS1 : s.set w (.dic kv1) = S1 at *
      have htk : S2.take s.length = S2 := by rw [← hS2]; exact take_set
      simp -implicitDefEqProofs [fnF, b_Table_count, N_Table_count, startD, f0, f2, hL, hd, hin, hmeth, e1, hset, f22, hix, hck, htk]
end Fl
set_option Elab.async false
set_option linter.all false
set_option maxRecDepth 100000
set_option maxHeartbeats 1000000
namespace Fl
open L2 PySem
/-! Table(known, promises), count_rows -/
theorem setF_app {c i k : Nat} {fo fv : EF} {δ : Sl} {s s1 s2 : Sto} {y : D} {ds : List D} (hv : fv δ s = .val y s1) (ho : fo δ s1 = .val (.ob k) s2) (hs : s2[k]? = some (.ins c ds)) (hi : i = ds.length) : setF c i fo fv δ s = .nx δ (s2.set k (.ins c (ds ++ [y]))) := by
  unfold setF
  rw [hv, O.go_val, ho, O.go_val]
  simp only [hs]
  rw [if_pos trivial, if_neg (by omega), if_pos hi]
theorem tinit_spec {k : List Nat} {ps : List Pr} {t : Nat} {s : Sto} (hs : s[t]? = some (.ins 0 [])) : m_TableD__initD_ [.ob t, .str k, .tup (ps.map Pr.d)] s = .val .non ((s ++ [SO.dic []]).set t (tabO k ps s.length)) := by
  have ht : t < s.length := (List.getElem?_eq_some_iff.mp hs).1
  have f1 : setF 0 0 (varF 0) (varF 1) [some (.ob t), some (.str k), some (.tup (ps.map Pr.d))] s = .nx [some (.ob t), some (.str k), some (.tup (ps.map Pr.d))] (s.set t (.ins 0 [.str k])) := setF_app (ds := []) rfl rfl hs rfl
  have f2 : setF 0 1 (varF 0) (varF 2) [some (.ob t), some (.str k), some (.tup (ps.map Pr.d))] (s.set t (.ins 0 [.str k])) = .nx [some (.ob t), some (.str k), some (.tup (ps.map Pr.d))] ((s.set t (.ins 0 [.str k])).set t (.ins 0 [.str k, .tup (ps.map Pr.d)])) := setF_app (ds := [.str k]) rfl rfl (List.getElem?_set_self ht) rfl
  rw [List.set_set] at f2
  have hlen : (s.set t (.ins 0 [.str k, .tup (ps.map Pr.d)])).length = s.length := by simp
  have f3 : setF 0 2 (varF 0) dicE [some (.ob t), some (.str k), some (.tup (ps.map Pr.d))] (s.set t (.ins 0 [.str k, .tup (ps.map Pr.d)])) = .nx [some (.ob t), some (.str k), some (.tup (ps.map Pr.d))] ((s.set t (.ins 0 [.str k, .tup (ps.map Pr.d)]) ++ [SO.dic []]).set t (.ins 0 [.str k, .tup (ps.map Pr.d), .ob (s.set t (.ins 0 [.str k, .tup (ps.map Pr.d)])).length])) :=
    setF_app (ds := [.str k, .tup (ps.map Pr.d)]) rfl rfl (by rw [List.getElem?_append_left (by simpa using ht)]; exact List.getElem?_set_self ht) rfl
  rw [hlen] at f3
  have hfin : (s.set t (.ins 0 [.str k, .tup (ps.map Pr.d)]) ++ [SO.dic []]).set t (.ins 0 [.str k, .tup (ps.map Pr.d), .ob s.length]) = (s ++ [SO.dic []]).set t (tabO k ps s.length) := by
    rw [List.set_append_left _ _ (by simpa using ht), List.set_set, List.set_append_left _ _ ht]; rfl
  rw [hfin] at f3
  simp -implicitDefEqProofs [m_TableD__initD_, fnK, b_TableD__initD_, N_TableD__initD_, startD, f1, f2, f3]
def madeT (k : List Nat) (ps : List Pr) (s : Sto) : Sto := s ++ [tabO k ps (s.length + 1), .dic []]
theorem made_tab {k : List Nat} {ps : List Pr} {s : Sto} : (madeT k ps s)[s.length]? = some (tabO k ps (s.length + 1)) := by simp [madeT]
theorem made_dic {k : List Nat} {ps : List Pr} {s : Sto} : (madeT k ps s)[s.length + 1]? = some (.dic []) := by
  unfold madeT
  rw [List.getElem?_append_right (by omega)]
  simp
theorem memo_nil (k : List Nat) (ps : List Pr) : Memo k ps [] := ⟨List.nodup_nil, fun z hz => nomatch hz⟩
theorem makeT {k : List Nat} {ps : List Pr} {δ : Sl} {s : Sto} {i j : Nat} (h1 : δ[i]? = some (some (.str k))) (h2 : δ[j]? = some (some (.tup (ps.map Pr.d)))) : makeF 0 3 m_TableD__initD_ (con (varF i) (con (varF j) (nil))) δ s = .val (.ob s.length) (madeT k ps s) := by
  have happ : (s ++ [SO.ins 0 []])[s.length]? = some (.ins 0 []) := by simp
  have hi := tinit_spec (k := k) (ps := ps) happ
  have e : ((s ++ [SO.ins 0 []]) ++ [SO.dic []]).set s.length (tabO k ps (s ++ [SO.ins 0 []]).length) = madeT k ps s := by
    simp [madeT]
  rw [e] at hi
  unfold makeF
  simp -implicitDefEqProofs [h1, h2, hi]
theorem rep_flat (n : Nat) : (List.replicate n [D.non]).flatten = List.replicate n D.non := by
  induction n with
  | zero => rfl
  | succ n ih => rw [List.replicate_succ, List.flatten_cons, ih]; rfl
theorem lefts0 (ps : List Pr) : (leftsP ps []).map lD = List.replicate ps.length D.non := by
  rw [lefts_nil, List.map_map, List.eq_replicate_iff]
  refine ⟨by simp, fun b hb => ?_⟩
  obtain ⟨p, _, rfl⟩ := List.mem_map.mp hb
  rfl
theorem okL0 : ∀ ps : List Pr, okL ps (leftsP ps [])
  | [] => trivial
  | p :: ps => by
    rw [lefts_nil]
    have h := okL0 ps
    rw [lefts_nil] at h
    show (∀ n, (none : Option Nat) = some n → n ≤ p.c + 1) ∧ okL ps (ps.map fun _ => none)
    exact ⟨fun n hn => (nomatch hn), h⟩
theorem mulT0 {s : Sto} {ps : List Pr} (h : ps.length ≤ 1000) : mulT s (.tup [.non]) (.int (ps.length : Int)) = .val (.tup ((leftsP ps []).map lD)) s := by
  unfold mulT
  simp only
  rw [if_pos ⟨by decide, by decide, by omega, by omega⟩, lefts0]
  congr 2
  rw [show (ps.length : Int).toNat = ps.length by omega]
  exact rep_flat _
theorem count0 {k : List Nat} {ps : List Pr} {t w : Nat} {s : Sto} {kvs : List (NestedKey × D)} (c : PsOk k ps) (hk : k.length ≤ 32) (hsz : k.length * sizeL ps ≤ 16000000) (htw : t ≠ w) (ht : s[t]? = some (tabO k ps w)) (hw : s[w]? = some (.dic kvs)) (hm : Memo k ps kvs) :
    ∃ kvs', m_Table_count [.ob t, .int 0, .tup ((leftsP ps []).map lD)] s = .val (.int ((rowsR k ps).length : Nat)) (s.set w (.dic kvs')) ∧ Memo k ps kvs' := by
  obtain ⟨kv, e, m⟩ := count_n c hsz htw k.length 33 0 (leftsP ps []) s kvs (by omega) (by omega) (okL0 ps) ht hw hm
  refine ⟨kv, ?_, m⟩
  rw [cnt_rws, rows_rws c.kn c.ok] at e
  exact e
theorem count_rows_spec {k : List Nat} {ps : List Pr} {s : Sto} (c : PsOk k ps) (hk : k.length ≤ 32) (hsz : k.length * sizeL ps ≤ 16000000) :
    m_count_rows [.str k, .tup (ps.map Pr.d)] s = .val (.int ((rowsR k ps).length : Nat)) s := by
  have mk := makeT (k := k) (ps := ps) (δ := [some (.str k), some (.tup (ps.map Pr.d))]) (s := s) (i := 0) (j := 1) rfl rfl
  obtain ⟨kv, e, m⟩ := count0 (t := s.length) (w := s.length + 1) c hk hsz (by omega) made_tab made_dic (memo_nil k ps)
  have hL : ∀ s, lenG s [.tup (ps.map Pr.d)] = .val (.int (ps.length : Int)) s := fun s => by
    rw [lenG_tup]; simp
  have hmul : ∀ s, mulT s (.tup [.non]) (.int (ps.length : Int)) = .val (.tup ((leftsP ps []).map lD)) s := fun s => mulT0 c.pl
  have htab := made_tab (k := k) (ps := ps) (s := s)
  have hmeth : methF 0 3 m_Table_count (makeF 0 3 m_TableD__initD_ (con (varF 0) (con (varF 1) (nil)))) (con (cF (.int 0)) (con (bin mulT (tupE (con (cF .non) (nil))) (fnB lenG (con (varF 1) (nil)))) (nil))) [some (.str k), some (.tup (ps.map Pr.d))] s = .val (.int ((rowsR k ps).length : Nat)) ((madeT k ps s).set (s.length + 1) (.dic kv)) := by
    unfold methF
    rw [mk]
    simp -implicitDefEqProofs [htab, tabO, hL, hmul, e]
  have hst : (madeT k ps s).set (s.length + 1) (.dic kv) = s ++ [tabO k ps (s.length + 1), .dic kv] := by
    unfold madeT
    rw [List.set_append_right _ _ (by omega)]
    simp
  rw [hst] at hmeth
  simp -implicitDefEqProofs [m_count_rows, fnF, b_count_rows, N_count_rows, startD, hmeth, chk_app]
end Fl
set_option Elab.async false
set_option linter.all false
set_option maxRecDepth 100000
set_option maxHeartbeats 1000000
namespace Fl
open L2 PySem
/-! row_at -/
theorem loopS_bk {g : GF} {body : SF} {x : D} {xs : List D} {δ δ2 : Sl} {s s2 : Sto} (h : turn g body x δ s = .bk δ2 s2) : loopS g body (x :: xs) δ s = .nx δ2 s2 := by
  unfold turn at h
  unfold loopS
  revert h
  cases noX (g x δ s) with
  | val δ' s' =>
    simp only [O.go_val]
    intro h
    rw [h]
  | stuck => intro h; cases h
  | exc c s' => intro h; cases h
structure TabS (k : List Nat) (ps : List Pr) (t w : Nat) (s : Sto) : Prop where
  ne : t ≠ w
  tab : s[t]? = some (tabO k ps w)
  dic : ∃ kvs, s[w]? = some (.dic kvs) ∧ Memo k ps kvs
theorem TabS.count {k : List Nat} {ps : List Pr} {t w m d : Nat} {os : List (Option Nat)} {s : Sto} (T : TabS k ps t w s) (c : PsOk k ps) (hk : k.length ≤ 32) (hsz : k.length * sizeL ps ≤ 16000000) (e : d + m = k.length) (ho : okL ps os) :
    ∃ kvs', m_Table_count [.ob t, .int (d : Int), .tup (os.map lD)] s = .val (.int (cntP k ps m d os : Nat)) (s.set w (.dic kvs')) ∧ TabS k ps t w (s.set w (.dic kvs')) := by
  obtain ⟨kvs, hw, hm⟩ := T.dic
  obtain ⟨kv, e1, m1⟩ := count_n c hsz T.ne m 33 d os s kvs e (by omega) ho T.tab hw hm
  exact ⟨kv, e1, ⟨T.ne, by rw [List.getElem?_set_ne (Ne.symm T.ne)]; exact T.tab, kv, List.getElem?_set_self (List.getElem?_eq_some_iff.mp hw).1, m1⟩⟩
theorem row_turn {k : List Nat} {ps : List Pr} {t w m d x rest : Nat} {os os' : List (Option Nat)} {row : List Nat} {s : Sto} {a0 a1 a2 a8 a9 a10 : Option D} (T : TabS k ps t w s) (c : PsOk k ps) (hk : k.length ≤ 32) (hsz : k.length * sizeL ps ≤ 16000000) (e : d + 1 + m = k.length) (ho : okL ps os') (hr : row.length ≤ 1000) :
    ∃ kvs', TabS k ps t w (s.set w (.dic kvs')) ∧ turn (tupG [nameG 8, nameG 9]) l_row_at_1 (stD (x, os')) [a0, a1, a2, some (.ob t), some (.tup (os.map lD)), some (.str row), some (.int (rest : Int)), some (.int (d : Int)), a8, a9, a10] s =
      if rest < cntP k ps m (d + 1) os' then .bk [a0, a1, a2, some (.ob t), some (.tup (os'.map lD)), some (.str (row ++ [x])), some (.int (rest : Int)), some (.int (d : Int)), some (.str [x]), some (.tup (os'.map lD)), some (.int (cntP k ps m (d + 1) os' : Nat))] (s.set w (.dic kvs'))
      else .nx [a0, a1, a2, some (.ob t), some (.tup (os.map lD)), some (.str row), some (.int ((rest - cntP k ps m (d + 1) os' : Nat) : Int)), some (.int (d : Int)), some (.str [x]), some (.tup (os'.map lD)), some (.int (cntP k ps m (d + 1) os' : Nat))] (s.set w (.dic kvs')) := by
  obtain ⟨kv, e1, T1⟩ := T.count c hk hsz e ho
  refine ⟨kv, T1, ?_⟩
  rw [show ((d + 1 : Nat) : Int) = (d : Int) + 1 by omega] at e1
  have ht := T.tab
  generalize s.set w (.dic kv) = S at e1 T1
  generalize cntP k ps m (d + 1) os' = C at e1
  have hmeth : ∀ (a8 a10 : Option D), methF 0 3 m_Table_count (varF 3) (con (bin addG (varF 7) (cF (.int 1))) (con (varF 9) (nil))) [a0, a1, a2, some (.ob t), some (.tup (os.map lD)), some (.str row), some (.int (rest : Int)), some (.int (d : Int)), a8, some (.tup (os'.map lD)), a10] s = .val (.int (C : Int)) S := fun a8 a10 => by
    unfold methF
    simp -implicitDefEqProofs [ht, tabO, e1]
  have hadd : addG S (.str row) (.str [x]) = .val (.str (row ++ [x])) S := addG_str (by simp; omega)
  by_cases h : rest < C
  · have h' : (rest : Int) < (C : Int) := by omega
    rw [if_pos h]
    simp -implicitDefEqProofs [turn, l_row_at_1, stD, hmeth, h, h', hadd]
  · have h' : ¬ (rest : Int) < (C : Int) := by omega
    have hsub : (rest : Int) - (C : Int) = ((rest - C : Nat) : Int) := by omega
    rw [if_neg h]
    simp -implicitDefEqProofs [turn, l_row_at_1, stD, hmeth, h, h', hsub]
theorem TabS.set2 {k : List Nat} {w : Nat} {s : Sto} {a b : SO} : (s.set w a).set w b = s.set w b := List.set_set ..
theorem row_inner {k : List Nat} {ps : List Pr} {t w m d : Nat} {os : List (Option Nat)} {row tail : List Nat} {a0 a1 a2 : Option D} (c : PsOk k ps) (hk : k.length ≤ 32) (hsz : k.length * sizeL ps ≤ 16000000) (e : d + 1 + m = k.length) (hr : row.length ≤ 1000) :
    ∀ (L : List (Nat × List (Option Nat))) (rest : Nat) (s : Sto) (a8 a9 a10 : Option D), TabS k ps t w s → (∀ st ∈ L, okL ps st.2) → (L.flatMap fun st => (rwsP k ps m (d + 1) st.2).map (st.1 :: ·))[rest]? = some tail →
      ∃ x os' rest' tail' kvs' b8 b9 b10, loopS (tupG [nameG 8, nameG 9]) l_row_at_1 (L.map stD) [a0, a1, a2, some (.ob t), some (.tup (os.map lD)), some (.str row), some (.int (rest : Int)), some (.int (d : Int)), a8, a9, a10] s =
        .nx [a0, a1, a2, some (.ob t), some (.tup (os'.map lD)), some (.str (row ++ [x])), some (.int ((rest' : Nat) : Int)), some (.int (d : Int)), b8, b9, b10] (s.set w (.dic kvs')) ∧ TabS k ps t w (s.set w (.dic kvs')) ∧ okL ps os' ∧ tail = x :: tail' ∧ (rwsP k ps m (d + 1) os')[rest']? = some tail'
  | [], rest, s, a8, a9, a10, _, _, h => by simp at h
  | st :: L, rest, s, a8, a9, a10, T, hL, h => by
    obtain ⟨x, os'⟩ := st
    obtain ⟨kv, T1, ht⟩ := row_turn (x := x) (rest := rest) (os := os) (os' := os') (row := row) (a0 := a0) (a1 := a1) (a2 := a2) (a8 := a8) (a9 := a9) (a10 := a10) T c hk hsz e (hL _ (List.mem_cons_self ..)) hr
    rw [List.flatMap_cons] at h
    have hlen : ((rwsP k ps m (d + 1) os').map (x :: ·)).length = cntP k ps m (d + 1) os' := by rw [List.length_map, cnt_rws]
    by_cases q : rest < cntP k ps m (d + 1) os'
    · rw [if_pos q] at ht
      rw [List.getElem?_append_left (by rw [hlen]; exact q), List.getElem?_map] at h
      obtain ⟨tail', h1, h2⟩ := Option.map_eq_some_iff.mp h
      exact ⟨x, os', rest, tail', kv, _, _, _, by rw [List.map_cons]; exact loopS_bk ht, T1, hL _ (List.mem_cons_self ..), h2.symm, h1⟩
    · rw [if_neg q] at ht
      rw [List.getElem?_append_right (by rw [hlen]; omega), hlen] at h
      obtain ⟨x', os'', rest', tail', kv', b8, b9, b10, g1, g2, g3, g4, g5⟩ := row_inner c hk hsz e hr L (rest - cntP k ps m (d + 1) os') (s.set w (.dic kv)) (some (.str [x])) (some (.tup (os'.map lD))) (some (.int (cntP k ps m (d + 1) os' : Nat))) T1 (fun st hst => hL st (List.mem_cons_of_mem _ hst)) h
      rw [List.set_set] at g1 g2
      exact ⟨x', os'', rest', tail', kv', b8, b9, b10, by rw [List.map_cons, loopS_cons ht, g1], g2, g3, g4, g5⟩
theorem row_day {k : List Nat} {ps : List Pr} {t w m d rest : Nat} {os : List (Option Nat)} {row tail : List Nat} {s : Sto} {a0 a1 a2 a7 a8 a9 a10 : Option D} (c : PsOk k ps) (hk : k.length ≤ 32) (hsz : k.length * sizeL ps ≤ 16000000) (e : d + (m + 1) = k.length) (hr : row.length ≤ 1000) (T : TabS k ps t w s) (ho : okL ps os)
    (h : (rwsP k ps (m + 1) d os)[rest]? = some tail) :
    ∃ x os' rest' tail' kvs' b8 b9 b10, turn (nameG 7) l_row_at_2 (.int (d : Int)) [a0, a1, a2, some (.ob t), some (.tup (os.map lD)), some (.str row), some (.int (rest : Int)), a7, a8, a9, a10] s =
      .nx [a0, a1, a2, some (.ob t), some (.tup (os'.map lD)), some (.str (row ++ [x])), some (.int ((rest' : Nat) : Int)), some (.int (d : Int)), b8, b9, b10] (s.set w (.dic kvs')) ∧ TabS k ps t w (s.set w (.dic kvs')) ∧ okL ps os' ∧ tail = x :: tail' ∧ (rwsP k ps m (d + 1) os')[rest']? = some tail' := by
  rw [rwsP] at h
  obtain ⟨x, os', rest', tail', kv, b8, b9, b10, g1, g2⟩ := row_inner (t := t) (w := w) (os := os) (row := row) (a0 := a0) (a1 := a1) (a2 := a2) c hk hsz (show d + 1 + m = k.length by omega) hr (stepsP k ps d os) rest s a8 a9 a10 T (fun st hst => (stepsP_ok ho st hst).1) h
  refine ⟨x, os', rest', tail', kv, b8, b9, b10, ?_, g2⟩
  have ht := T.tab
  have hst := steps_spec (os := os) c ht (show d < k.length by omega) (okL_len ho)
  have hmeth : methF 0 3 m_Table_steps (varF 3) (con (varF 7) (con (varF 4) (nil))) [a0, a1, a2, some (.ob t), some (.tup (os.map lD)), some (.str row), some (.int (rest : Int)), some (.int (d : Int)), a8, a9, a10] s = .val (.lst ((stepsP k ps d os).map stD)) s := by
    unfold methF
    simp -implicitDefEqProofs [ht, tabO, hst]
  simp -implicitDefEqProofs [turn, l_row_at_2, hmeth, g1]
theorem row_loop {k : List Nat} {ps : List Pr} {t w rest : Nat} {q : List Nat} {S0 : Sto} {a0 a1 a2 a7 a8 a9 a10 : Option D} (c : PsOk k ps) (hk : k.length ≤ 32) (hsz : k.length * sizeL ps ≤ 16000000) (T : TabS k ps t w S0) (h : (rwsP k ps k.length 0 (leftsP ps []))[rest]? = some q) :
    ∃ δ' kv, loopS (nameG 7) l_row_at_2 (upI 0 k.length) [a0, a1, a2, some (.ob t), some (.tup ((leftsP ps []).map lD)), some (.str []), some (.int (rest : Int)), a7, a8, a9, a10] S0 = .nx δ' (S0.set w (.dic kv)) ∧ δ'[5]? = some (some (.str q)) := by
  obtain ⟨kvs0, hw0, _⟩ := T.dic
  obtain ⟨δ', s', e, I⟩ := loop_inv (g := nameG 7) (body := l_row_at_2) (xs := upI 0 k.length)
    (fun i δ S => ∃ row os rest tail b7 b8 b9 b10 kv, δ = [a0, a1, a2, some (.ob t), some (.tup (os.map lD)), some (.str row), some (.int ((rest : Nat) : Int)), b7, b8, b9, b10] ∧ row.length = i ∧ row ++ tail = q ∧ okL ps os ∧ (rwsP k ps (k.length - i) i os)[rest]? = some tail ∧ TabS k ps t w S ∧ S = S0.set w (.dic kv))
    (fun i x δ S hx I => by
      obtain ⟨row, os, rest, tail, b7, b8, b9, b10, kv, rfl, hl, hq, ho, hr, TS, hS⟩ := I
      obtain ⟨rfl, hi⟩ := upI_get hx
      rw [show k.length - i = (k.length - (i + 1)) + 1 by omega] at hr
      obtain ⟨x, os', rest', tail', kv', c8, c9, c10, g1, g2, g3, g4, g5⟩ := row_day (a0 := a0) (a1 := a1) (a2 := a2) (a7 := b7) (a8 := b8) (a9 := b9) (a10 := b10) c hk hsz (show i + (k.length - (i + 1) + 1) = k.length by omega) (show row.length ≤ 1000 by omega) TS ho hr
      rw [show (0 : Int) + (i : Int) = (i : Int) by omega]
      refine ⟨_, _, g1, row ++ [x], os', rest', tail', _, c8, c9, c10, kv', rfl, by simp [hl], ?_, g3, g5, g2, ?_⟩
      · rw [← hq, g4]; simp
      · rw [hS, List.set_set])
    (δ := [a0, a1, a2, some (.ob t), some (.tup ((leftsP ps []).map lD)), some (.str []), some (.int (rest : Int)), a7, a8, a9, a10]) (s := S0)
    ⟨[], leftsP ps [], rest, q, a7, a8, a9, a10, kvs0, rfl, rfl, rfl, okL0 ps, h, T, (set_same hw0).symm⟩
  obtain ⟨row, os, rest', tail, b7, b8, b9, b10, kv, rfl, hl, hq, _, hr, _, rfl⟩ := I
  rw [upI_len] at hl hr
  rw [Nat.sub_self] at hr
  have ht : tail = [] := by
    have : (rwsP k ps 0 k.length os) = [[]] := rfl
    rw [this] at hr
    cases rest' with
    | zero => simpa using hr.symm
    | succ n => simp at hr
  rw [ht, List.append_nil] at hq
  exact ⟨_, kv, e, by rw [hq]; rfl⟩
theorem row_at_spec {k : List Nat} {ps : List Pr} {s : Sto} (c : PsOk k ps) (hk : k.length ≤ 32) (hsz : k.length * sizeL ps ≤ 16000000) (i : Nat) :
    m_row_at [.str k, .tup (ps.map Pr.d), .int (i : Int)] s = .val (match (rowsR k ps)[i]? with
      | some q => .str q
      | none => .non) s := by
  have mk : ∀ δ : Sl, δ[0]? = some (some (.str k)) → δ[1]? = some (some (.tup (ps.map Pr.d))) → makeF 0 3 m_TableD__initD_ (con (varF 0) (con (varF 1) (nil))) δ s = .val (.ob s.length) (madeT k ps s) := fun δ h0 h1 => makeT h0 h1
  have T0 : TabS k ps s.length (s.length + 1) (madeT k ps s) := ⟨by omega, made_tab, [], made_dic, memo_nil k ps⟩
  obtain ⟨kv, e1, T1⟩ := T0.count (m := k.length) (d := 0) (os := leftsP ps []) c hk hsz (by omega) (okL0 ps)
  rw [cnt_rws, rows_rws c.kn c.ok] at e1
  have e1' : m_Table_count [.ob s.length, .int 0, .tup ((leftsP ps []).map lD)] (madeT k ps s) = .val (.int ((rowsR k ps).length : Nat)) ((madeT k ps s).set (s.length + 1) (.dic kv)) := e1
  have hL : ∀ s, lenG s [.tup (ps.map Pr.d)] = .val (.int (ps.length : Int)) s := fun s => by
    rw [lenG_tup]; simp
  have hLk : ∀ s, lenG s [.str k] = .val (.int k.length) s := fun s => lenG_str (by have := c.kl; omega)
  have hmul : ∀ s, mulT s (.tup [.non]) (.int (ps.length : Int)) = .val (.tup ((leftsP ps []).map lD)) s := fun s => mulT0 c.pl
  have htab := made_tab (k := k) (ps := ps) (s := s)
  have hst : ∀ kv, (madeT k ps s).set (s.length + 1) (.dic kv) = s ++ [tabO k ps (s.length + 1), .dic kv] := fun kv => by
    unfold madeT
    rw [List.set_append_right _ _ (by omega)]
    simp
  have hmeth : ∀ δ : Sl, δ[3]? = some (some (.ob s.length)) → δ[4]? = some (some (.tup ((leftsP ps []).map lD))) → methF 0 3 m_Table_count (varF 3) (con (cF (.int 0)) (con (varF 4) (nil))) δ (madeT k ps s) = .val (.int ((rowsR k ps).length : Nat)) ((madeT k ps s).set (s.length + 1) (.dic kv)) := fun δ h3 h4 => by
    unfold methF
    simp -implicitDefEqProofs [h3, h4, htab, tabO, e1']
  have hsm : sm (k.length : Int) = true := sm_nat (by omega)
  cases hi : (rowsR k ps)[i]? with
  | none =>
    have hge : (((rowsR k ps).length : Nat) : Int) ≤ (i : Int) := by have := List.getElem?_eq_none_iff.mp hi; omega
    rw [hst] at hmeth
    simp -implicitDefEqProofs [m_row_at, fnF, b_row_at, N_row_at, startD, mk, hL, hmul, hmeth, hge, chk_app]
  | some q =>
    have hlt : ¬ (((rowsR k ps).length : Nat) : Int) ≤ (i : Int) := by have := (List.getElem?_eq_some_iff.mp hi).1; omega
    rw [← rows_rws c.kn c.ok] at hi
    obtain ⟨δ', kv2, e2, h5⟩ := row_loop (a0 := some (.str k)) (a1 := some (.tup (ps.map Pr.d))) (a2 := some (.int (i : Int))) (a7 := none) (a8 := none) (a9 := none) (a10 := none) c hk hsz T1 hi
    rw [List.set_set, hst kv2] at e2
    generalize hS : (madeT k ps s).set (s.length + 1) (.dic kv) = S1 at hmeth e2
    simp -implicitDefEqProofs [m_row_at, fnF, b_row_at, N_row_at, startD, mk, hL, hLk, hmul, hmeth, hlt, hsm, e2, h5, chk_app]
end Fl
set_option Elab.async false
set_option linter.all false
set_option maxRecDepth 100000
set_option maxHeartbeats 1000000
namespace Fl
open L2 PySem
/-! law k11: rows in order -/
theorem lt_cons {x : Nat} {a b : List Nat} (h : a < b) : x :: a < x :: b := List.cons_lt_cons_self.mpr h
theorem pw_map_cons {x : Nat} : ∀ {l : List (List Nat)}, l.Pairwise (· < ·) → (l.map (x :: ·)).Pairwise (· < ·)
  | [], _ => .nil
  | a :: l, h => by
    have g := List.pairwise_cons.mp h
    rw [List.map_cons, List.pairwise_cons]
    exact ⟨fun b hb => by
      obtain ⟨c, hc, rfl⟩ := List.mem_map.mp hb
      exact lt_cons (g.1 c hc), pw_map_cons g.2⟩
theorem cmp_pw : ∀ {k : List Nat}, (cmpR k).Pairwise (· < ·)
  | [] => by simp [cmpR]
  | c :: k => by
    have ih := cmp_pw (k := k)
    rw [cmpR]
    unfold ext
    split
    · simp only [List.flatMap_cons, List.flatMap_nil, List.append_nil]
      rw [List.pairwise_append]
      refine ⟨pw_map_cons ih, pw_map_cons ih, fun a ha b hb => ?_⟩
      obtain ⟨a', _, rfl⟩ := List.mem_map.mp ha
      obtain ⟨b', _, rfl⟩ := List.mem_map.mp hb
      exact List.cons_lt_cons_iff.mpr (.inl (by decide))
    · simp only [List.flatMap_cons, List.flatMap_nil, List.append_nil]
      exact pw_map_cons ih
theorem rows_pw {k : List Nat} {ps : List Pr} : (rowsR k ps).Pairwise (· < ·) := by
  unfold rowsR
  rw [cmp_all]
  exact List.Pairwise.filter _ cmp_pw
theorem rows_le {k : List Nat} {ps : List Pr} {i j : Nat} {a b : List Nat} (hij : i ≤ j) (ha : (rowsR k ps)[i]? = some a) (hb : (rowsR k ps)[j]? = some b) : ¬ b < a := by
  obtain ⟨hi, rfl⟩ := List.getElem?_eq_some_iff.mp ha
  obtain ⟨hj, rfl⟩ := List.getElem?_eq_some_iff.mp hb
  by_cases q : i = j
  · subst q; exact List.lt_irrefl _
  · have := List.pairwise_iff_getElem.mp (rows_pw (k := k) (ps := ps)) i j hi hj (by omega)
    exact List.lt_asymm this
theorem sizeL_le : ∀ {ps : List Pr}, (∀ p ∈ ps, p.c ≤ 5) → sizeL ps ≤ 8 ^ ps.length
  | [], _ => Nat.le_refl 1
  | p :: ps, h => by
    have ih := sizeL_le (ps := ps) fun q hq => h q (List.mem_cons_of_mem _ hq)
    have hp := h p (List.mem_cons_self ..)
    rw [sizeL, List.length_cons, Nat.pow_succ, Nat.mul_comm]
    exact Nat.mul_le_mul ih (by omega)
theorem size_ok {k : List Nat} {ps : List Pr} (hk : k.length ≤ 32) (hp : ps.length ≤ 5) (h : ∀ p ∈ ps, p.c ≤ 5) : k.length * sizeL ps ≤ 16000000 := by
  have h1 := sizeL_le h
  have h2 : (8 : Nat) ^ ps.length ≤ 8 ^ 5 := Nat.pow_le_pow_right (by decide) hp
  have h3 : k.length * sizeL ps ≤ 32 * 8 ^ 5 := Nat.mul_le_mul hk (Nat.le_trans h1 h2)
  have h4 : (32 * 8 ^ 5 : Nat) ≤ 16000000 := by decide
  omega
theorem rows_nd {k : List Nat} {ps : List Pr} : (rowsR k ps).Nodup := by
  unfold List.Nodup
  refine List.Pairwise.imp (fun h => ?_) (rows_pw (k := k) (ps := ps))
  intro e; subst e; exact List.lt_irrefl _ h
theorem nd_filter {α : Type} {l : List α} {p : α → Bool} (h : l.Nodup) : (l.filter p).Nodup := List.Pairwise.filter _ h
theorem len_eq {α : Type} [DecidableEq α] {l m : List α} (h1 : l.Nodup) (h2 : m.Nodup) (h : ∀ x, x ∈ l ↔ x ∈ m) : l.length = m.length :=
  Nat.le_antisymm (nodup_sub_len h1 fun x hx => (h x).mp hx) (nodup_sub_len h2 fun x hx => (h x).mpr hx)
theorem filter_split {α : Type} (p : α → Bool) : ∀ l : List α, (l.filter p).length + (l.filter fun x => !p x).length = l.length
  | [] => rfl
  | a :: l => by
    have ih := filter_split p l
    rw [List.filter_cons, List.filter_cons]
    cases p a <;> simp <;> omega
theorem kn_set {k : List Nat} (hk : Kn k) {d x : Nat} (hx : x = 119 ∨ x = 102) : Kn (k.set d x) := fun c hc => by
  rcases List.mem_or_eq_of_mem_set hc with h | h
  · exact hk c h
  · subst h; omega
theorem fits_set {k : List Nat} {ps : List Pr} {r : List Nat} {d x : Nat} (hxx : x = 119 ∨ x = 102) (hd : d < k.length) (h63 : k[d]? = some 63) : Fits (k.set d x) ps r ↔ Fits k ps r ∧ r[d]? = some x := by
  have hget : ∀ j : Nat, (k.set d x)[j]? = if j = d then some x else k[j]? := fun j => by
    by_cases q : j = d
    · subst q; rw [if_pos rfl, List.getElem?_set_self hd]
    · rw [if_neg q, List.getElem?_set_ne (Ne.symm q)]
  constructor
  · intro f
    have hlen : r.length = k.length := by rw [f.len]; simp
    have hdx := f.day d (by simpa using hd)
    rw [hget, if_pos rfl] at hdx
    have hrd : r[d]? = some r[d] := List.getElem?_eq_getElem (by omega)
    have hrow := f.row r[d] (List.getElem_mem (by omega))
    refine ⟨⟨f.row, hlen, fun j hj => ?_, f.kp⟩, ?_⟩
    · by_cases q : j = d
      · subst q; exact .inl h63
      · have := f.day j (by simpa using hj)
        rwa [hget, if_neg q] at this
    · rcases hdx with q | q
      · have hx : x = 63 := Option.some.inj q
        omega
      · exact q.symm
  · rintro ⟨f, hr⟩
    refine ⟨f.row, by rw [f.len]; simp, fun j hj => ?_, f.kp⟩
    rw [hget]
    by_cases q : j = d
    · subst q; rw [if_pos rfl, hr]; exact .inr rfl
    · rw [if_neg q]; exact f.day j (by simpa using hj)
theorem rows_set {k : List Nat} {ps : List Pr} {d x : Nat} (hk : Kn k) (hx : x = 119 ∨ x = 102) (hd : d < k.length) (h63 : k[d]? = some 63) : (rowsR (k.set d x) ps).length = ((rowsR k ps).filter fun r => r[d]? == some x).length := by
  refine len_eq rows_nd (nd_filter rows_nd) fun r => ?_
  rw [rows_mem (kn_set hk hx), List.mem_filter, rows_mem hk, fits_set hx hd h63, beq_iff_eq]
theorem day_split {k : List Nat} {ps : List Pr} {d : Nat} (hk : Kn k) (hd : d < k.length) (h63 : k[d]? = some 63) : (rowsR (k.set d 119) ps).length + (rowsR (k.set d 102) ps).length = (rowsR k ps).length := by
  rw [rows_set hk (.inl rfl) hd h63, rows_set hk (.inr rfl) hd h63, ← filter_split (fun r : List Nat => r[d]? == some 119) (rowsR k ps)]
  congr 2
  refine List.filter_congr fun r hr => ?_
  have f := (rows_mem hk r).mp hr
  have hl := f.len
  have hrd : r[d]? = some r[d] := List.getElem?_eq_getElem (by omega)
  have := f.row r[d] (List.getElem_mem (by omega))
  rw [hrd]
  rcases this with q | q <;> rw [q] <;> rfl
theorem fits_app {k : List Nat} {ps : List Pr} {p : Pr} {r : List Nat} : Fits k (ps ++ [p]) r ↔ Fits k ps r ∧ keepsP r p = true := by
  constructor
  · intro f
    exact ⟨⟨f.row, f.len, f.day, fun q hq => f.kp q (List.mem_append_left _ hq)⟩, f.kp p (by simp)⟩
  · rintro ⟨f, h⟩
    refine ⟨f.row, f.len, f.day, fun q hq => ?_⟩
    rcases List.mem_append.mp hq with z | z
    · exact f.kp q z
    · rw [List.mem_singleton.mp z]; exact h
theorem rows_app {k : List Nat} {ps : List Pr} {p : Pr} (hk : Kn k) : (rowsR k (ps ++ [p])).length = ((rowsR k ps).filter fun r => keepsP r p).length := by
  refine len_eq rows_nd (nd_filter rows_nd) fun r => ?_
  rw [rows_mem hk, List.mem_filter, rows_mem hk, fits_app]
theorem due_split {k : List Nat} {ps : List Pr} {st c e : Nat} (hk : Kn k) : (rowsR k (ps ++ [⟨kBy, st, c, e⟩])).length + (rowsR k (ps ++ [⟨kFrom, st, c, e + 1⟩])).length = (rowsR k ps).length := by
  rw [rows_app hk, rows_app hk, ← filter_split (fun r : List Nat => keepsP r ⟨kBy, st, c, e⟩) (rowsR k ps)]
  congr 2
  refine List.filter_congr fun r _ => ?_
  have ne1 : kFrom ≠ kBy := by decide
  unfold keepsP
  simp only [if_neg ne1, if_true]
  by_cases q : dueR r st c ≤ e
  · simp [q]; omega
  · simp [q]; omega
/-! states of days -/
theorem Fits.at {k : List Nat} {ps : List Pr} {r : List Nat} (f : Fits k ps r) {d : Nat} (hd : d < k.length) : (r[d]? = some 119 ∧ pc r (d + 1) = pc r d + 1) ∨ (r[d]? = some 102 ∧ pc r (d + 1) = pc r d) := by
  obtain ⟨ch, hc, _⟩ := row_at f.row (show d < r.length by rw [f.len]; exact hd)
  have hs := pc_succ r d
  rcases f.row ch (List.mem_of_getElem? hc) with e | e
  · subst e
    rw [if_pos (wk_iff.mpr hc)] at hs
    exact .inl ⟨hc, hs⟩
  · subst e
    rw [if_neg (fun z => by have := wk_iff.mp z; rw [hc] at this; cases this)] at hs
    exact .inr ⟨hc, hs⟩
theorem day_meet {k : List Nat} {ps : List Pr} (c : Case k ps) (g : Good k ps) {d : Nat} (hd : d < k.length) {v : Int} (h1 : -allT k ps (d + 1) d ≤ v) (h2 : v ≤ allT k ps d (d + 1)) : ∃ r, Fits k ps r ∧ (pc r (d + 1) : Int) - pc r d = v := g.meet c (by omega) (by omega) h1 h2
theorem stR_both {k : List Nat} {ps : List Pr} (c : Case k ps) (g : Good k ps) {d : Nat} (hd : d < k.length) : stR k ps d = 63 ↔ (∃ r, Fits k ps r ∧ r[d]? = some 119) ∧ ∃ r, Fits k ps r ∧ r[d]? = some 102 := by
  obtain ⟨d0, d1, d2⟩ := day_le c g hd
  constructor
  · intro h
    have hlt : -allT k ps (d + 1) d < allT k ps d (d + 1) := by
      unfold stR at h
      split at h
      · assumption
      · split at h <;> cases h
    obtain ⟨r1, f1, e1⟩ := day_meet c g hd (v := 1) (by omega) (by omega)
    obtain ⟨r2, f2, e2⟩ := day_meet c g hd (v := 0) (by omega) (by omega)
    refine ⟨⟨r1, f1, ?_⟩, ⟨r2, f2, ?_⟩⟩
    · rcases f1.at hd with ⟨a, b⟩ | ⟨a, b⟩
      · exact a
      · omega
    · rcases f2.at hd with ⟨a, b⟩ | ⟨a, b⟩
      · omega
      · exact a
  · rintro ⟨⟨r1, f1, e1⟩, ⟨r2, f2, e2⟩⟩
    have b1 := f1.btw c (i := d) (j := d + 1) (by omega) (by omega)
    have b2 := f2.btw c (i := d) (j := d + 1) (by omega) (by omega)
    unfold stR
    rw [if_pos]
    rcases f1.at hd with ⟨a, b⟩ | ⟨a, b⟩
    · rcases f2.at hd with ⟨a', b'⟩ | ⟨a', b'⟩
      · rw [e2] at a'; cases a'
      · omega
    · rw [e1] at a; cases a
/-! the law's turns -/
theorem case_ps {k : List Nat} {ps : List Pr} (c : Case k ps) (hp : ps.length ≤ 1000) : PsOk k ps := ⟨c.kn, by have := c.len; omega, hp, c.ok⟩
theorem k11_turn1 {k : List Nat} {ps : List Pr} {z : Nat} {own b : List Nat} {s : Sto} {a0 a1 a2 a3 a6 a8 a9 a10 a11 a12 a13 a14 a15 a16 a17 a18 a19 : Option D} (c : Case k ps) (hk : k.length ≤ 32) (hp : ps.length ≤ 1000) (hsz : k.length * sizeL ps ≤ 16000000) (hz : (rowsR k ps)[z]? = some own) (hb : ¬ own < b) :
    turn (nameG 8) l_law_k11_1 (.int (z : Int)) [a0, a1, a2, a3, some (.str k), some (.tup (ps.map Pr.d)), a6, some (.str b), a8, a9, a10, a11, a12, a13, a14, a15, a16, a17, a18, a19] s =
      .nx [a0, a1, a2, a3, some (.str k), some (.tup (ps.map Pr.d)), a6, some (.str own), some (.int (z : Int)), some (.str own), a10, a11, a12, a13, a14, a15, a16, a17, a18, a19] s := by
  have f := (rows_mem c.kn own).mp (List.mem_of_getElem? hz)
  have hr : ∀ s, m_row_at [.str k, .tup (ps.map Pr.d), .int (z : Int)] s = .val (.str own) s := fun s => by
    rw [row_at_spec (case_ps c hp) hk hsz z, hz]
  have hf : ∀ s, m_law_fits [.str own, .str k, .tup (ps.map Pr.d)] s = .val (.bl true) s := fun s => by
    have hle := c.len
    rw [fits_spec (by rw [f.len]; omega) (by omega) f.row (fun p hp => ⟨(c.ok p hp).kd, by have := (c.ok p hp).se; have := (c.ok p hp).en; omega⟩) hp, (fitsB_iff f.len f.row).mpr f]
  have hn : ∀ s, isNG s (.str own) .non = .val (.bl false) s := fun s => rfl
  have hlt : ∀ s, ltS s (.str own) (.str b) = .val (.bl false) s := fun s => by
    simp only [ltS, decide_eq_false hb]
  simp -implicitDefEqProofs [turn, l_law_k11_1, hr, hf, hn, hlt]
theorem k11_loop1 {k : List Nat} {ps : List Pr} {s : Sto} {a0 a1 a2 a3 a6 a10 a11 a12 a13 a14 a15 a16 a17 a18 a19 : Option D} (c : Case k ps) (hk : k.length ≤ 32) (hp : ps.length ≤ 1000) (hsz : k.length * sizeL ps ≤ 16000000) :
    ∀ (zs : List Int) (b : List Nat) (a8 a9 : Option D), zs.Pairwise (· ≤ ·) → (∀ z ∈ zs, 0 ≤ z ∧ z < (rowsR k ps).length) → (∀ z ∈ zs, ∀ own, (rowsR k ps)[z.toNat]? = some own → ¬ own < b) →
      ∃ b' c8 c9, loopS (nameG 8) l_law_k11_1 (zs.map D.int) [a0, a1, a2, a3, some (.str k), some (.tup (ps.map Pr.d)), a6, some (.str b), a8, a9, a10, a11, a12, a13, a14, a15, a16, a17, a18, a19] s =
        .nx [a0, a1, a2, a3, some (.str k), some (.tup (ps.map Pr.d)), a6, some (.str b'), c8, c9, a10, a11, a12, a13, a14, a15, a16, a17, a18, a19] s
  | [], b, a8, a9, _, _, _ => ⟨b, a8, a9, rfl⟩
  | z :: zs, b, a8, a9, hpw, hz, hb => by
    have g := List.pairwise_cons.mp hpw
    obtain ⟨z0, z1⟩ := hz z (List.mem_cons_self ..)
    obtain ⟨n, rfl⟩ := Int.eq_ofNat_of_zero_le z0
    have hn : n < (rowsR k ps).length := by omega
    have hget : (rowsR k ps)[n]? = some (rowsR k ps)[n] := List.getElem?_eq_getElem hn
    have t := k11_turn1 (s := s) (a0 := a0) (a1 := a1) (a2 := a2) (a3 := a3) (a6 := a6) (a8 := a8) (a9 := a9) (a10 := a10) (a11 := a11) (a12 := a12) (a13 := a13) (a14 := a14) (a15 := a15) (a16 := a16) (a17 := a17) (a18 := a18) (a19 := a19) c hk hp hsz hget (hb _ (List.mem_cons_self ..) _ hget)
    obtain ⟨b', c8, c9, e⟩ := k11_loop1 (s := s) (a0 := a0) (a1 := a1) (a2 := a2) (a3 := a3) (a6 := a6) (a10 := a10) (a11 := a11) (a12 := a12) (a13 := a13) (a14 := a14) (a15 := a15) (a16 := a16) (a17 := a17) (a18 := a18) (a19 := a19) c hk hp hsz zs (rowsR k ps)[n] (some (.int (n : Int))) (some (.str (rowsR k ps)[n])) g.2 (fun y hy => hz y (List.mem_cons_of_mem _ hy)) (fun y hy own ho => by
      have := g.1 y hy
      exact rows_le (show n ≤ y.toNat by omega) hget ho)
    exact ⟨b', c8, c9, by rw [List.map_cons, loopS_cons t, e]⟩
theorem set_split {k : List Nat} {d x : Nat} (hd : d < k.length) : k.take d ++ [x] ++ k.drop (d + 1) = k.set d x := by
  rw [List.set_eq_take_append_cons_drop, if_pos hd]; simp
theorem len_pos {k : List Nat} {ps : List Pr} {d x : Nat} (hk : Kn k) (hx : x = 119 ∨ x = 102) (hd : d < k.length) (h63 : k[d]? = some 63) : 0 < (rowsR (k.set d x) ps).length ↔ ∃ r, Fits k ps r ∧ r[d]? = some x := by
  rw [rows_set hk hx hd h63, List.length_pos_iff_exists_mem]
  constructor
  · rintro ⟨r, hr⟩
    obtain ⟨h1, h2⟩ := List.mem_filter.mp hr
    exact ⟨r, (rows_mem hk r).mp h1, by simpa using h2⟩
  · rintro ⟨r, f, h⟩
    exact ⟨r, List.mem_filter.mpr ⟨(rows_mem hk r).mpr f, by simpa using h⟩⟩
theorem case_set {k : List Nat} {ps : List Pr} {d x : Nat} (c : Case k ps) (hx : x = 119 ∨ x = 102) : Case (k.set d x) ps := ⟨kn_set c.kn hx, by rw [List.length_set]; exact c.len, fun p hp => by rw [List.length_set]; exact c.ok p hp⟩
theorem k11_turn2 {k : List Nat} {ps : List Pr} {d : Nat} {s : Sto} {a0 a1 a2 a3 a7 a8 a9 a10 a11 a12 a13 a14 a15 a16 a17 a18 a19 : Option D} (c : Case k ps) (hk : k.length ≤ 32) (hp : ps.length ≤ 1000) (hsz : k.length * sizeL ps ≤ 16000000) (hd : d < k.length) (hm : 1 ≤ (rowsR k ps).length) :
    ∃ c12 c13, turn (tupG [nameG 10, nameG 11]) l_law_k11_2 (.tup [.int (d : Int), .str [stR k ps d]]) [a0, a1, a2, a3, some (.str k), some (.tup (ps.map Pr.d)), some (.int ((rowsR k ps).length : Nat)), a7, a8, a9, a10, a11, a12, a13, a14, a15, a16, a17, a18, a19] s =
      .nx [a0, a1, a2, a3, some (.str k), some (.tup (ps.map Pr.d)), some (.int ((rowsR k ps).length : Nat)), a7, a8, a9, some (.int (d : Int)), some (.str [stR k ps d]), c12, c13, a14, a15, a16, a17, a18, a19] s := by
  have hlen := c.len
  have g : Good k ps := by
    obtain ⟨r, hr⟩ := List.length_pos_iff_exists_mem.mp hm
    exact (good_iff c).mpr ⟨r, (rows_mem c.kn r).mp hr⟩
  have hi : ∀ s, ixG s (.str k) (.int (d : Int)) = .val (.str [k[d]]) s := fun s => ixG_str (by omega) (atI_nat (List.getElem?_eq_getElem hd))
  have hin : ∀ s x, inG s (.str [k[d]]) (.tup [.str [x], .str [63]]) = .val (.bl (x == k[d] || 63 == k[d])) s := fun s x => by simp [inG, inB, atomD, isIn]
  have s1 : ∀ s, slG s (.str k) none (some (d : Int)) = .val (.str (k.take d)) s := fun s => by
    simp only [slG, view_str, if_pos (show k.length ≤ 16000000 by omega), cut_take (show d ≤ k.length by omega)]
  have s2 : ∀ s, slG s (.str k) (some ((d : Int) + 1)) none = .val (.str (k.drop (d + 1))) s := fun s => by
    simp only [slG, view_str, if_pos (show k.length ≤ 16000000 by omega), cut_drop (ds := k) (i := d + 1) (x := (d : Int) + 1) (by omega)]
  have a1' : ∀ s x, addG s (.str (k.take d)) (.str [x]) = .val (.str (k.take d ++ [x])) s := fun s x => addG_str (by simp; omega)
  have a2' : ∀ s x, addG s (.str (k.take d ++ [x])) (.str (k.drop (d + 1))) = .val (.str (k.set d x)) s := fun s x => by
    rw [addG_str (by simp; omega), set_split hd]
  have hcnt : ∀ x, (x = 119 ∨ x = 102) → ∀ s, m_count_rows [.str (k.set d x), .tup (ps.map Pr.d)] s = .val (.int ((rowsR (k.set d x) ps).length : Nat)) s := fun x hx s =>
    count_rows_spec (case_ps (case_set c hx) hp) (by rw [List.length_set]; exact hk) (by rw [List.length_set]; exact hsz)
  have c1 := hcnt 119 (.inl rfl)
  have c2 := hcnt 102 (.inr rfl)
  have hkd : k[d]? = some k[d] := List.getElem?_eq_getElem hd
  rcases c.kn k[d] (List.getElem_mem hd) with q | q | q
  · rw [q] at hi hin hkd
    have e : k.set d 119 = k := by
      apply List.ext_getElem?
      intro j
      by_cases z : j = d
      · subst z; rw [List.getElem?_set_self hd, hkd]
      · rw [List.getElem?_set_ne (Ne.symm z)]
    rw [e] at c1
    have hst : stR k ps d ≠ 63 := fun z => by
      obtain ⟨_, r, f, h⟩ := (stR_both c g hd).mp z
      rcases f.day d hd with y | y
      · rw [hkd] at y; cases y
      · rw [hkd, h] at y; cases y
    generalize hN : (rowsR k ps).length = N at *
    generalize stR k ps d = S at *
    have hs1 : ∀ s, sumG s [.lst [.int (N : Int)]] = .val (.int (N : Int)) s := fun s => by simp [sumG, intsD]
    have hn1 : ∀ s, ninG s (.int 0) (.lst [.int (N : Int)]) = .val (.bl true) s := fun s => by
      have : inB s (.int 0) (.lst [.int (N : Int)]) = some false := by
        simp [inB, isIn]; omega
      rw [ninG_of this]; rfl
    refine ⟨some (.lst [.str [119]]), some (.lst [.int (N : Int)]), ?_⟩
    simp -implicitDefEqProofs [turn, l_law_k11_2, wipeD, loopC_cons, yes, hi, hin, s1, s2, a1', a2', e, c1, hs1, hn1, hst]
  · rw [q] at hi hin hkd
    have e : k.set d 102 = k := by
      apply List.ext_getElem?
      intro j
      by_cases z : j = d
      · subst z; rw [List.getElem?_set_self hd, hkd]
      · rw [List.getElem?_set_ne (Ne.symm z)]
    rw [e] at c2
    have hst : stR k ps d ≠ 63 := fun z => by
      obtain ⟨⟨r, f, h⟩, _⟩ := (stR_both c g hd).mp z
      rcases f.day d hd with y | y
      · rw [hkd] at y; cases y
      · rw [hkd, h] at y; cases y
    generalize hN : (rowsR k ps).length = N at *
    generalize stR k ps d = S at *
    have hs1 : ∀ s, sumG s [.lst [.int (N : Int)]] = .val (.int (N : Int)) s := fun s => by simp [sumG, intsD]
    have hn1 : ∀ s, ninG s (.int 0) (.lst [.int (N : Int)]) = .val (.bl true) s := fun s => by
      have : inB s (.int 0) (.lst [.int (N : Int)]) = some false := by
        simp [inB, isIn]; omega
      rw [ninG_of this]; rfl
    refine ⟨some (.lst [.str [102]]), some (.lst [.int (N : Int)]), ?_⟩
    simp -implicitDefEqProofs [turn, l_law_k11_2, wipeD, loopC_cons, yes, hi, hin, s1, s2, a1', a2', e, c2, hs1, hn1, hst]
  · rw [q] at hi hin hkd
    have sp := day_split (ps := ps) c.kn hd hkd
    have hb := stR_both c g hd
    rw [← len_pos c.kn (.inl rfl) hd hkd, ← len_pos c.kn (.inr rfl) hd hkd] at hb
    generalize (rowsR (k.set d 119) ps).length = N1 at *
    generalize (rowsR (k.set d 102) ps).length = N2 at *
    generalize (rowsR k ps).length = N at *
    generalize stR k ps d = S at *
    have hs1 : ∀ s, sumG s [.lst [.int (N1 : Int), .int (N2 : Int)]] = .val (.int (N : Int)) s := fun s => by
      simp [sumG, intsD]; omega
    by_cases hS : S = 63
    · obtain ⟨p1, p2⟩ := hb.mp hS
      have hn1 : ∀ s, ninG s (.int 0) (.lst [.int (N1 : Int), .int (N2 : Int)]) = .val (.bl true) s := fun s => by
        have : inB s (.int 0) (.lst [.int (N1 : Int), .int (N2 : Int)]) = some false := by
          simp [inB, isIn]; omega
        rw [ninG_of this]; rfl
      subst hS
      refine ⟨some (.lst [.str [119], .str [102]]), some (.lst [.int (N1 : Int), .int (N2 : Int)]), ?_⟩
      simp -implicitDefEqProofs [turn, l_law_k11_2, wipeD, loopC_cons, yes, hi, hin, s1, s2, a1', a2', c1, c2, hs1, hn1]
    · have hn1 : ∀ s, ninG s (.int 0) (.lst [.int (N1 : Int), .int (N2 : Int)]) = .val (.bl false) s := fun s => by
        have : inB s (.int 0) (.lst [.int (N1 : Int), .int (N2 : Int)]) = some true := by
          have : N1 = 0 ∨ N2 = 0 := by
            by_cases z1 : N1 = 0
            · exact .inl z1
            · by_cases z2 : N2 = 0
              · exact .inr z2
              · exact absurd (hb.mpr ⟨by omega, by omega⟩) hS
          simp [inB, isIn]; omega
        rw [ninG_of this]; rfl
      refine ⟨some (.lst [.str [119], .str [102]]), some (.lst [.int (N1 : Int), .int (N2 : Int)]), ?_⟩
      simp -implicitDefEqProofs [turn, l_law_k11_2, wipeD, loopC_cons, yes, hi, hin, s1, s2, a1', a2', c1, c2, hs1, hn1, hS]
theorem ord_ok (ns : List Int) : (ordI ns).Pairwise (· ≤ ·) ∧ ∀ z, z ∈ ordI ns ↔ z ∈ ns := by
  have h1 := List.mergeSort_perm ns (fun a b => decide (a ≤ b))
  have h2 : (ns.mergeSort fun a b => decide (a ≤ b)).Pairwise (· ≤ ·) := by
    have := List.pairwise_mergeSort (le := fun a b : Int => decide (a ≤ b)) (fun a b c h1 h2 => by simp at *; omega) (fun a b => by simp; omega) ns
    exact this.imp fun h => of_decide_eq_true h
  rw [ordI_eq h1 h2]
  exact ⟨h2, fun z => h1.mem_iff⟩
theorem k11_days {k : List Nat} {ps : List Pr} {s : Sto} {a0 a1 a2 a3 a7 a8 a9 a10 a11 a12 a13 a14 a15 a16 a17 a18 a19 : Option D} (c : Case k ps) (hk : k.length ≤ 32) (hp : ps.length ≤ 1000) (hsz : k.length * sizeL ps ≤ 16000000) (hm : 1 ≤ (rowsR k ps).length) :
    ∃ c10 c11 c12 c13, loopS (tupG [nameG 10, nameG 11]) l_law_k11_2 (numbered 0 ((statesR k ps).map fun c => D.str [c])) [a0, a1, a2, a3, some (.str k), some (.tup (ps.map Pr.d)), some (.int ((rowsR k ps).length : Nat)), a7, a8, a9, a10, a11, a12, a13, a14, a15, a16, a17, a18, a19] s =
      .nx [a0, a1, a2, a3, some (.str k), some (.tup (ps.map Pr.d)), some (.int ((rowsR k ps).length : Nat)), a7, a8, a9, c10, c11, c12, c13, a14, a15, a16, a17, a18, a19] s := by
  obtain ⟨δ', s', e, ⟨c10, c11, c12, c13, rfl⟩, rfl⟩ := loop_inv (g := tupG [nameG 10, nameG 11]) (body := l_law_k11_2) (xs := numbered 0 ((statesR k ps).map fun c => D.str [c]))
    (fun _ δ s' => (∃ c10 c11 c12 c13, δ = [a0, a1, a2, a3, some (.str k), some (.tup (ps.map Pr.d)), some (.int ((rowsR k ps).length : Nat)), a7, a8, a9, c10, c11, c12, c13, a14, a15, a16, a17, a18, a19]) ∧ s' = s)
    (fun i x δ s' hx I => by
      obtain ⟨⟨c10, c11, c12, c13, rfl⟩, rfl⟩ := I
      obtain ⟨y, hy, rfl⟩ := num_at hx
      rw [List.getElem?_map] at hy
      obtain ⟨st, hst, rfl⟩ := Option.map_eq_some_iff.mp hy
      unfold statesR at hst
      rw [List.getElem?_map] at hst
      obtain ⟨j, hj, rfl⟩ := Option.map_eq_some_iff.mp hst
      obtain ⟨hjl, hje⟩ := List.getElem?_eq_some_iff.mp hj
      have hi : i < k.length := by simpa using hjl
      obtain rfl : j = i := by simpa using hje.symm
      obtain ⟨d12, d13, t⟩ := k11_turn2 (s := s') (a0 := a0) (a1 := a1) (a2 := a2) (a3 := a3) (a7 := a7) (a8 := a8) (a9 := a9) (a10 := c10) (a11 := c11) (a12 := c12) (a13 := c13) (a14 := a14) (a15 := a15) (a16 := a16) (a17 := a17) (a18 := a18) (a19 := a19) c hk hp hsz hi hm
      rw [Nat.zero_add]
      exact ⟨_, _, t, ⟨_, _, _, _, rfl⟩, rfl⟩)
    (δ := [a0, a1, a2, a3, some (.str k), some (.tup (ps.map Pr.d)), some (.int ((rowsR k ps).length : Nat)), a7, a8, a9, a10, a11, a12, a13, a14, a15, a16, a17, a18, a19]) (s := s) ⟨⟨_, _, _, _, rfl⟩, rfl⟩
  exact ⟨c10, c11, c12, c13, e⟩
theorem k11_body {s : Sto} {x : D} {a0 a2 a3 a4 a5 a6 a7 a8 a9 a10 a11 a12 a13 a14 a15 a16 a17 a18 a19 : Option D} (T : Tap 0 s) :
    ∃ δ2 s2, l_law_k11_3 [a0, some (.ob 0), a2, a3, a4, a5, a6, a7, a8, a9, a10, a11, a12, a13, a14, a15, a16, a17, a18, a19] s = .nx δ2 s2 ∧ Inv 20 δ2 s2 := by
  obtain ⟨v, s1, e1, d1, u1, w1⟩ := draw (many := 16) T (by omega) (by omega)
  have T1 := T.dr d1
  obtain ⟨r, s2, e2, d2, hrl, hr⟩ := row_spec (n := 10 + v) T1 (by omega) (by omega)
  have T2 := T1.dr d2
  obtain ⟨k, s3, e3, d3, hkl, hkd⟩ := masked_spec T2 (show r.length ≤ 1000 by omega)
  have T3 := T2.dr d3
  obtain ⟨ps0, s4, e4, d4, hps, hpl⟩ := promises_spec5 (most := 4) T3 (show r.length ≤ 90 by omega) (by omega) hr (by omega) (by omega)
  have T4 := T3.dr d4
  have hkn : Kn k := fun ch hc => by
    obtain ⟨d, hd⟩ := List.getElem?_of_mem hc
    have hdl : d < r.length := by have := (List.getElem?_eq_some_iff.mp hd).1; omega
    rcases hkd d hdl with q | q
    · rw [hd] at q; exact .inr (.inr (Option.some.inj q))
    · rw [hd] at q
      have := hr ch (List.mem_of_getElem? q.symm)
      omega
  generalize hP : ps0.filter (keepsP r) = ps
  have hpsub : ∀ p ∈ ps, p ∈ ps0 ∧ keepsP r p = true := fun p hp => by rw [← hP] at hp; exact List.mem_filter.mp hp
  have hplen : ps.length ≤ 4 := by rw [← hP]; exact Nat.le_trans (List.length_filter_le _ _) (by omega)
  have c : Case k ps := ⟨hkn, by omega, fun p hp => by rw [hkl]; exact (hps p (hpsub p hp).1).1⟩
  have hc5 : ∀ p ∈ ps, p.c ≤ 5 := fun p hp => (hps p (hpsub p hp).1).2
  have hk32 : k.length ≤ 32 := by omega
  have hsz := size_ok hk32 (show ps.length ≤ 5 by omega) hc5
  have hfr : Fits k ps r := ⟨hr, hkl.symm, fun d hd => hkd d (by omega), fun p hp => (hpsub p hp).2⟩
  have hm : 1 ≤ (rowsR k ps).length := List.length_pos_iff_exists_mem.mpr ⟨r, (rows_mem hkn r).mpr hfr⟩
  have hg : goodB k ps = true := goodB_iff.mpr ((good_iff c).mpr ⟨r, hfr⟩)
  have hN := rows_pow k ps
  have hN2 : (2 : Nat) ^ k.length ≤ 2 ^ 32 := Nat.pow_le_pow_right (by decide) hk32
  have hcnt : ∀ s, m_count_rows [.str k, .tup (ps.map Pr.d)] s = .val (.int ((rowsR k ps).length : Nat)) s := fun s => count_rows_spec (case_ps c (by omega)) hk32 hsz
  have hrow : ∀ s, m_row_at [.str k, .tup (ps.map Pr.d), .int ((rowsR k ps).length : Nat)] s = .val .non s := fun s => by
    rw [row_at_spec (case_ps c (by omega)) hk32 hsz, List.getElem?_eq_none (Nat.le_refl _)]
  have hstt : ∀ s, m_day_states [.str k, .tup (ps.map Pr.d)] s = .val (.str (statesR k ps)) s := fun s => by
    rw [states_spec c, if_pos hg]
  have comp : ∀ (s : Sto) (δ : Sl), δ.length = 20 → δ[3]? = some (some (.str r)) → loopC (nameG 9) (tst (callF 2 m_law_keeps (con (varF 3) (con (varF 9) (nil))))) (varF 9) δ (ps0.map Pr.d) [] s = .val (ps.map Pr.d) s := fun s δ hl h3 => by
    have := loopC_mapf (g := nameG 9) (t := tst (callF 2 m_law_keeps (con (varF 3) (con (varF 9) (nil))))) (e := varF 9) (δ := δ) (s := s) Pr.d (keepsP r) Pr.d ps0 [] (fun p hp => by
      have h9 : 9 < δ.length := by omega
      have g3 : (δ.set 9 (some p.d))[3]? = some (some (.str r)) := by rw [List.getElem?_set_ne (by decide)]; exact h3
      have g9 : (δ.set 9 (some p.d))[9]? = some (some p.d) := List.getElem?_set_self h9
      have kp := law_keeps_spec (s := s) (r := r) (p := p) (by omega) hr (hps p hp).1.kd (by have := (hps p hp).1.se; have := (hps p hp).1.en; omega)
      refine ⟨δ.set 9 (some p.d), rfl, ?_, fun _ => ⟨?_, rfl⟩⟩
      · simp -implicitDefEqProofs [g3, g9, kp]
      · simp only [varF, g9]) (by simp; omega)
    rw [this, hP]; rfl
  have hL : ∀ s, lenG s [.str k] = .val (.int k.length) s := fun s => lenG_str (by omega)
  generalize hNN : (rowsR k ps).length = N at *
  obtain ⟨v1, s5, e5, d5, x1, y1⟩ := draw (many := (N : Int)) T4 (by omega) (by omega)
  have T5 := T4.dr d5
  obtain ⟨v2, s6, e6, d6, x2, y2⟩ := draw (many := (N : Int)) T5 (by omega) (by omega)
  have T6 := T5.dr d6
  obtain ⟨o1, o2⟩ := ord_ok [0, (N : Int) - 1, v1, v2]
  have hord : ∀ s, ordG s [.lst [.int 0, .int ((N : Int) - 1), .int v1, .int v2]] = .val (.lst ((ordI [0, (N : Int) - 1, v1, v2]).map D.int)) s := fun s => rfl
  generalize ordI [0, (N : Int) - 1, v1, v2] = zs at o1 o2 hord
  have hz : ∀ z ∈ zs, 0 ≤ z ∧ z < N := fun z hz => by
    have := (o2 z).mp hz
    simp at this
    omega
  obtain ⟨p, s7, e7, d7, pok, pc5⟩ := promise_spec5 T6 (show r.length ≤ 90 by omega) (by omega) hr
  have D7 := ((((((d1.trans d2).trans d3).trans d4).trans d5).trans d6).trans d7)
  rw [← hkl] at pok
  have cEarly : Case k (ps ++ [⟨kBy, p.s, p.c, p.e⟩]) := ⟨hkn, by omega, fun q hq => by
    rcases List.mem_append.mp hq with z | z
    · exact c.ok q z
    · rw [List.mem_singleton.mp z]; exact ⟨.inr (.inl rfl), pok.se, pok.en, pok.cn⟩⟩
  have h5e : ∀ k' e', ∀ q ∈ ps ++ [(⟨k', p.s, p.c, e'⟩ : Pr)], q.c ≤ 5 := fun k' e' q hq => by
    rcases List.mem_append.mp hq with z | z
    · exact hc5 q z
    · rw [List.mem_singleton.mp z]; exact pc5
  have early : ∀ s, m_count_rows [.str k, .tup (ps.map Pr.d ++ [.tup [.str [98, 121], .int ((p.s : Int) - 1), .int ((p.c : Int) + 1), .int (p.e : Int)]])] s = .val (.int ((rowsR k (ps ++ [⟨kBy, p.s, p.c, p.e⟩])).length : Nat)) s := fun s => by
    have := count_rows_spec (s := s) (case_ps cEarly (by simp; omega)) hk32 (size_ok hk32 (by simp; omega) (h5e kBy p.e))
    rw [List.map_append] at this
    exact this
  have late : p.e + 1 < k.length → ∀ s, m_count_rows [.str k, .tup (ps.map Pr.d ++ [.tup [.str [102, 114, 111, 109], .int ((p.s : Int) - 1), .int ((p.c : Int) + 1), .int ((p.e : Int) + 1)]])] s = .val (.int ((rowsR k (ps ++ [⟨kFrom, p.s, p.c, p.e + 1⟩])).length : Nat)) s := fun he s => by
    have cl : Case k (ps ++ [⟨kFrom, p.s, p.c, p.e + 1⟩]) := ⟨hkn, by omega, fun q hq => by
      rcases List.mem_append.mp hq with z | z
      · exact c.ok q z
      · rw [List.mem_singleton.mp z]; exact ⟨.inr (.inr rfl), by have := pok.se; show p.s ≤ p.e + 1; omega, he, pok.cn⟩⟩
    have := count_rows_spec (s := s) (case_ps cl (by simp; omega)) hk32 (size_ok hk32 (by simp; omega) (h5e kFrom (p.e + 1)))
    rw [List.map_append] at this
    exact this
  have sp := due_split (k := k) (ps := ps) (st := p.s) (c := p.c) (e := p.e) hkn
  rw [hNN] at sp
  have happ : ∀ s y, addG s (.tup (ps.map Pr.d)) (.tup [y]) = .val (.tup (ps.map Pr.d ++ [y])) s := fun s y => addG_tup (by simp; omega)
  obtain ⟨b', c8, c9, L1⟩ := k11_loop1 (s := s6) (a0 := a0) (a1 := some (.ob 0)) (a2 := a2) (a3 := some (.str r)) (a6 := some (.int (N : Int))) (a10 := a10) (a11 := a11) (a12 := a12) (a13 := a13) (a14 := a14) (a15 := a15) (a16 := a16) (a17 := a17) (a18 := a18) (a19 := a19) c hk32 (by omega) hsz zs [] a8 a9 o1 (fun z hz' => by rw [hNN]; exact hz z hz') (fun z _ own _ => List.not_lt_nil own)
  obtain ⟨c10, c11, c12, c13, L2⟩ := k11_days (s := s6) (a0 := a0) (a1 := some (.ob 0)) (a2 := a2) (a3 := some (.str r)) (a7 := some (.str b')) (a8 := c8) (a9 := c9) (a10 := a10) (a11 := a11) (a12 := a12) (a13 := a13) (a14 := a14) (a15 := a15) (a16 := a16) (a17 := a17) (a18 := a18) (a19 := a19) c hk32 (by omega) hsz (by rw [hNN]; exact hm)
  rw [hNN] at L2
  have hN1 : ¬ (N : Int) < 1 := by omega
  have hnn : ∀ s, isntG s .non .non = .val (.bl false) s := fun s => rfl
  have hsrc : srcD (.str (statesR k ps)) = some ((statesR k ps).map fun c => D.str [c]) := rfl
  generalize hE : (rowsR k (ps ++ [⟨kBy, p.s, p.c, p.e⟩])).length = E1 at *
  generalize hF : (rowsR k (ps ++ [⟨kFrom, p.s, p.c, p.e + 1⟩])).length = E2 at *
  by_cases he : p.e + 1 < k.length
  · have he' : (p.e : Int) < (k.length : Int) - 1 := by omega
    have late' := late he
    have hsum : (E1 : Int) + (E2 : Int) = (N : Int) := by omega
    refine ⟨[a0, some (.ob 0), a2, some (.str r), some (.str k), some (.tup (ps.map Pr.d)), some (.int (N : Int)), some (.str b'), c8, c9, c10, c11, c12, c13, some (.str p.k), some (.int ((p.s : Int) - 1)), some (.int ((p.c : Int) + 1)), some (.int (p.e : Int)), some (.int (E1 : Int)), some (.int (E2 : Int))], s7, ?_, ⟨rfl, rfl, T.dr D7⟩⟩
    simp -implicitDefEqProofs [l_law_k11_3, e1, e2, e3, e4, wipeD, comp, tupleG, hcnt, hN1, e5, e6, hord, L1, hrow, hnn, hstt, enumF, hsrc, L2, e7, Pr.d, happ, early, hL, he', late', hsum]
  · have he' : ¬ (p.e : Int) < (k.length : Int) - 1 := by omega
    refine ⟨[a0, some (.ob 0), a2, some (.str r), some (.str k), some (.tup (ps.map Pr.d)), some (.int (N : Int)), some (.str b'), c8, c9, c10, c11, c12, c13, some (.str p.k), some (.int ((p.s : Int) - 1)), some (.int ((p.c : Int) + 1)), some (.int (p.e : Int)), some (.int (E1 : Int)), a19], s7, ?_, ⟨rfl, rfl, T.dr D7⟩⟩
    simp -implicitDefEqProofs [l_law_k11_3, e1, e2, e3, e4, wipeD, comp, tupleG, hcnt, hN1, e5, e6, hord, L1, hrow, hnn, hstt, enumF, hsrc, L2, e7, Pr.d, happ, early, hL, he']
theorem law_k11_true (ns : List Int) (hn : ns.length ≤ 63) : ∃ s, m_law_k11 [.scr ns] [] = .val (.bl true) s := by
  refine law_turns (N := N_law_k11) (n := 20) (m := 2) (body := l_law_k11_3) (ret := retS (cF (.bl true))) rfl (by omega) (by omega) (fun x δ s I => ?_) (fun δ s I => ⟨s, rfl⟩) ns
  obtain ⟨hl, h1, T⟩ := I
  match δ, hl, h1 with
  | [a0, b1, a2, a3, a4, a5, a6, a7, a8, a9, a10, a11, a12, a13, a14, a15, a16, a17, a18, a19], _, h1 =>
    obtain rfl : b1 = some (.ob 0) := by simpa using h1
    obtain ⟨δ2, s2, e, I2⟩ := k11_body (x := x) (a0 := a0) (a2 := some x) (a3 := a3) (a4 := a4) (a5 := a5) (a6 := a6) (a7 := a7) (a8 := a8) (a9 := a9) (a10 := a10) (a11 := a11) (a12 := a12) (a13 := a13) (a14 := a14) (a15 := a15) (a16 := a16) (a17 := a17) (a18 := a18) (a19 := a19) T
    refine ⟨δ2, s2, ?_, I2⟩
    simp -implicitDefEqProofs [turn, e]
end Fl
set_option Elab.async false
set_option linter.all false
set_option maxRecDepth 100000
set_option maxHeartbeats 1000000
namespace Fl
open L2 PySem
/-! nearest: layers of what is left, each with the fewest exceptions and a row -/
abbrev Lay := List (List (Option Nat) × (Nat × List Nat))
def getY (l : Lay) (os : List (Option Nat)) : Option (Nat × List Nat) := (l.find? fun p => decide (p.1 = os)).map (·.2)
def putY (l : Lay) (os : List (Option Nat)) (v : Nat × List Nat) : Lay := if (getY l os).isSome = true then l.map (fun p => if p.1 = os then (p.1, v) else p) else l ++ [(os, v)]
def better (l : Lay) (os : List (Option Nat)) (v : Nat × List Nat) : Lay := match getY l os with
  | some u => if v.1 < u.1 then putY l os v else l
  | none => putY l os v
theorem getY_cons {p : List (Option Nat) × (Nat × List Nat)} {l : Lay} {os : List (Option Nat)} : getY (p :: l) os = if p.1 = os then some p.2 else getY l os := by
  unfold getY
  by_cases h : p.1 = os
  · rw [List.find?_cons_of_pos (by simpa using h), if_pos h]; rfl
  · rw [List.find?_cons_of_neg (by simpa using h), if_neg h]
theorem getY_mem {l : Lay} {os : List (Option Nat)} {v : Nat × List Nat} (h : getY l os = some v) : (os, v) ∈ l := by
  induction l with
  | nil => cases h
  | cons p l ih =>
    rw [getY_cons] at h
    by_cases e : p.1 = os
    · rw [if_pos e] at h
      cases h
      exact List.mem_cons.mpr (.inl (by rw [← e]))
    · rw [if_neg e] at h
      exact List.mem_cons_of_mem _ (ih h)
theorem getY_app {l : Lay} {os os' : List (Option Nat)} {v : Nat × List Nat} (h : getY l os = none) : getY (l ++ [(os, v)]) os' = if os' = os then some v else getY l os' := by
  induction l with
  | nil =>
    rw [List.nil_append, getY_cons]
    by_cases e : os = os'
    · rw [if_pos e, if_pos e.symm]
    · rw [if_neg e, if_neg (fun z => e z.symm)]
  | cons p l ih =>
    rw [getY_cons] at h
    by_cases e : p.1 = os
    · rw [if_pos e] at h; cases h
    · rw [if_neg e] at h
      rw [List.cons_append, getY_cons, getY_cons, ih h]
      by_cases q : p.1 = os'
      · rw [if_pos q, if_pos q, if_neg (fun z => e (q.trans z))]
      · rw [if_neg q, if_neg q]
theorem getY_map {l : Lay} {os os' : List (Option Nat)} {v : Nat × List Nat} : getY (l.map fun p => if p.1 = os then (p.1, v) else p) os' = if os' = os then (getY l os).map (fun _ => v) else getY l os' := by
  induction l with
  | nil =>
    by_cases e : os' = os
    · rw [if_pos e]; rfl
    · rw [if_neg e]; rfl
  | cons p l ih =>
    rw [List.map_cons, getY_cons, getY_cons, getY_cons, ih]
    by_cases e : p.1 = os
    · simp only [if_pos e]
      by_cases q : os' = os
      · rw [if_pos (e.trans q.symm), if_pos q]; rfl
      · rw [if_neg (fun z => q (z.symm.trans e)), if_neg q, if_neg q, if_neg (fun z => q (z.symm.trans e))]
    · simp only [if_neg e]
      by_cases q : os' = os
      · rw [if_neg (fun z => e (z.trans q)), if_pos q, if_pos q]
      · rw [if_neg q, if_neg q]
theorem getY_put {l : Lay} {os os' : List (Option Nat)} {v : Nat × List Nat} : getY (putY l os v) os' = if os' = os then some v else getY l os' := by
  unfold putY
  cases h : getY l os with
  | none => rw [if_neg (by simp)]; exact getY_app h
  | some u =>
    rw [if_pos (by simp), getY_map, h]; rfl
/-- after better: what stood stays or becomes less, os is there with at most v -/
theorem better_get {l : Lay} {os os' : List (Option Nat)} {v : Nat × List Nat} : (∀ u, getY l os' = some u → ∃ u', getY (better l os v) os' = some u' ∧ u'.1 ≤ u.1) ∧ ∃ u', getY (better l os v) os = some u' ∧ u'.1 ≤ v.1 := by
  unfold better
  cases h : getY l os with
  | none =>
    simp only
    refine ⟨fun u hu => ?_, v, by rw [getY_put, if_pos rfl], Nat.le_refl _⟩
    rw [getY_put]
    by_cases q : os' = os
    · rw [q, h] at hu; cases hu
    · rw [if_neg q]; exact ⟨u, hu, Nat.le_refl _⟩
  | some w =>
    simp only
    by_cases c : v.1 < w.1
    · rw [if_pos c]
      refine ⟨fun u hu => ?_, v, by rw [getY_put, if_pos rfl], Nat.le_refl _⟩
      rw [getY_put]
      by_cases q : os' = os
      · rw [if_pos q]
        rw [q, h] at hu; cases hu
        exact ⟨v, rfl, by omega⟩
      · rw [if_neg q]; exact ⟨u, hu, Nat.le_refl _⟩
    · rw [if_neg c]
      exact ⟨fun u hu => ⟨u, hu, Nat.le_refl _⟩, w, h, by omega⟩
theorem put_mem {l : Lay} {os : List (Option Nat)} {v : Nat × List Nat} {p : List (Option Nat) × (Nat × List Nat)} (h : p ∈ putY l os v) : p ∈ l ∨ p = (os, v) := by
  unfold putY at h
  split at h
  · obtain ⟨z, hz, rfl⟩ := List.mem_map.mp h
    by_cases e : z.1 = os
    · rw [if_pos e]; right; rw [e]
    · rw [if_neg e]; exact .inl hz
  · rcases List.mem_append.mp h with q | q
    · exact .inl q
    · exact .inr (by simpa using q)
theorem better_mem {l : Lay} {os : List (Option Nat)} {v : Nat × List Nat} {p : List (Option Nat) × (Nat × List Nat)} (h : p ∈ better l os v) : p ∈ l ∨ p = (os, v) := by
  unfold better at h
  split at h
  · split at h
    · exact put_mem h
    · exact .inl h
  · exact put_mem h
def allB (l : Lay) (its : Lay) : Lay := its.foldl (fun l it => better l it.1 it.2) l
theorem allB_mem : ∀ {its l : Lay} {p : List (Option Nat) × (Nat × List Nat)}, p ∈ allB l its → p ∈ l ∨ p ∈ its
  | [], l, p, h => .inl h
  | it :: its, l, p, h => by
    rcases allB_mem (its := its) (l := better l it.1 it.2) h with q | q
    · rcases better_mem q with z | z
      · exact .inl z
      · exact .inr (by rw [z]; exact List.mem_cons_self ..)
    · exact .inr (List.mem_cons_of_mem _ q)
theorem allB_get : ∀ {its l : Lay}, (∀ os u, getY l os = some u → ∃ u', getY (allB l its) os = some u' ∧ u'.1 ≤ u.1) ∧ ∀ it ∈ its, ∃ u', getY (allB l its) it.1 = some u' ∧ u'.1 ≤ it.2.1
  | [], l => ⟨fun os u h => ⟨u, h, Nat.le_refl _⟩, fun it h => nomatch h⟩
  | it :: its, l => by
    obtain ⟨a, b⟩ := allB_get (its := its) (l := better l it.1 it.2)
    constructor
    · intro os u h
      obtain ⟨u1, h1, le1⟩ := (better_get (l := l) (os := it.1) (os' := os) (v := it.2)).1 u h
      obtain ⟨u2, h2, le2⟩ := a os u1 h1
      exact ⟨u2, h2, by omega⟩
    · intro jt hj
      rcases List.mem_cons.mp hj with rfl | hj
      · obtain ⟨u1, h1, le1⟩ := (better_get (l := l) (os := jt.1) (os' := jt.1) (v := jt.2)).2
        obtain ⟨u2, h2, le2⟩ := a jt.1 u1 h1
        exact ⟨u2, h2, by omega⟩
      · exact b jt hj
/-! exceptions from a week -/
def costW (week : List Nat) (d x : Nat) : Nat := if week[d % 7]? = some x then 0 else 1
def excW (week r : List Nat) : Nat := ((List.range r.length).filter fun i => !(week[i % 7]? == r[i]?)).length
theorem exc_snoc {week r : List Nat} {x : Nat} : excW week (r ++ [x]) = excW week r + costW week r.length x := by
  unfold excW costW
  rw [List.length_append, List.length_singleton, List.range_succ, List.filter_append, List.length_append]
  congr 1
  · congr 1
    refine List.filter_congr fun i hi => ?_
    rw [List.getElem?_append_left (List.mem_range.mp hi)]
  · have e : (r ++ [x])[r.length]? = some x := by simp
    rw [List.filter_cons, e]
    by_cases h : week[r.length % 7]? = some x
    · rw [if_pos h, h]; simp
    · rw [if_neg h, if_pos (by simp [h])]; rfl
/-! rows that can be gone on with -/
structure Alive (k : List Nat) (ps : List Pr) (r : List Nat) : Prop where
  len : r.length ≤ k.length
  day : ∀ j x, r[j]? = some x → dayK k j x = true ∧ (x = 102 ∨ x = 119)
  goes : goesB ps [] r = true
theorem goes_snoc {ps : List Pr} {x : Nat} : ∀ {t r : List Nat}, goesB ps r (t ++ [x]) = (goesB ps r t && stepOk ps (r ++ t) x)
  | [], r => by simp [goesB]
  | y :: t, r => by
    rw [List.cons_append, goesB, goesB, goes_snoc (t := t), Bool.and_assoc]
    simp
theorem alive_snoc {k : List Nat} {ps : List Pr} {r : List Nat} {x : Nat} : Alive k ps (r ++ [x]) ↔ Alive k ps r ∧ r.length < k.length ∧ (dayK k r.length x = true ∧ stepOk ps r x = true) ∧ (x = 102 ∨ x = 119) := by
  constructor
  · intro a
    have g := a.goes
    rw [goes_snoc, Bool.and_eq_true, List.nil_append] at g
    have hl := a.len
    simp only [List.length_append, List.length_singleton] at hl
    have hx := a.day r.length x (by simp)
    exact ⟨⟨by omega, fun j y hy => a.day j y (by rw [List.getElem?_append_left (List.getElem?_eq_some_iff.mp hy).1]; exact hy), g.1⟩, by omega, ⟨hx.1, g.2⟩, hx.2⟩
  · rintro ⟨a, hl, ⟨h1, h2⟩, hx⟩
    refine ⟨by simp; omega, fun j y hy => ?_, ?_⟩
    · by_cases q : j < r.length
      · rw [List.getElem?_append_left q] at hy
        exact a.day j y hy
      · rw [List.getElem?_append_right (by omega)] at hy
        have hj : j = r.length := by
          have := (List.getElem?_eq_some_iff.mp hy).1
          simp at this; omega
        subst hj
        simp at hy; subst hy
        exact ⟨h1, hx⟩
    · rw [goes_snoc, List.nil_append, a.goes, h2]; rfl
theorem alive_step {k : List Nat} {ps : List Pr} {r : List Nat} (h : ∀ p ∈ ps, p.s ≤ p.e) (a : Alive k ps r) (hl : r.length < k.length) (st : Nat × List (Option Nat)) : st ∈ stepsP k ps r.length (leftsP ps r) ↔ Alive k ps (r ++ [st.1]) ∧ st.2 = leftsP ps (r ++ [st.1]) := by
  rw [steps_left h, alive_snoc]
  constructor
  · intro hm
    obtain ⟨x, hx, rfl⟩ := List.mem_map.mp hm
    obtain ⟨h1, h2⟩ := List.mem_filter.mp hx
    rw [Bool.and_eq_true] at h2
    exact ⟨⟨a, hl, h2, by simpa using h1⟩, rfl⟩
  · rintro ⟨⟨_, _, h2, h3⟩, h4⟩
    refine List.mem_map.mpr ⟨st.1, List.mem_filter.mpr ⟨by simpa using h3, by rw [h2.1, h2.2]; rfl⟩, ?_⟩
    rw [← h4]
structure LI (k : List Nat) (ps : List Pr) (week : List Nat) (d : Nat) (lay : Lay) : Prop where
  sound : ∀ p ∈ lay, Alive k ps p.2.2 ∧ p.2.2.length = d ∧ p.1 = leftsP ps p.2.2 ∧ p.2.1 = excW week p.2.2
  comp : ∀ r, Alive k ps r → r.length = d → ∃ u, getY lay (leftsP ps r) = some u ∧ u.1 ≤ excW week r
def itsY (k : List Nat) (ps : List Pr) (week : List Nat) (d : Nat) (lay : Lay) : Lay := lay.flatMap fun p => (stepsP k ps d p.1).map fun st => (st.2, (p.2.1 + costW week d st.1, p.2.2 ++ [st.1]))
theorem LI.step {k : List Nat} {ps : List Pr} {week : List Nat} {d : Nat} {lay : Lay} (h : ∀ p ∈ ps, p.s ≤ p.e) (I : LI k ps week d lay) (hd : d < k.length) : LI k ps week (d + 1) (allB [] (itsY k ps week d lay)) := by
  constructor
  · intro p hp
    rcases allB_mem hp with q | q
    · cases q
    · obtain ⟨z, hz, hm⟩ := List.mem_flatMap.mp q
      obtain ⟨st, hst, rfl⟩ := List.mem_map.mp hm
      obtain ⟨s1, s2, s3, s4⟩ := I.sound z hz
      rw [s3, ← s2] at hst
      obtain ⟨a1, a2⟩ := (alive_step h s1 (by omega) st).mp hst
      refine ⟨a1, by simp [s2], a2, ?_⟩
      show z.2.1 + costW week d st.1 = excW week (z.2.2 ++ [st.1])
      rw [exc_snoc, s4, s2]
  · intro r a hl
    obtain ⟨r0, x, rfl⟩ : ∃ r0 x, r = r0 ++ [x] := by
      rcases List.eq_nil_or_concat r with e | ⟨r0, x, e⟩
      · rw [e] at hl; simp at hl
      · exact ⟨r0, x, by rw [e]; simp⟩
    have hl0 : r0.length = d := by simpa using hl
    obtain ⟨a0, hlt, h2, hx⟩ := alive_snoc.mp a
    obtain ⟨u, hu, hle⟩ := I.comp r0 a0 hl0
    have hm := getY_mem hu
    have hst : (x, leftsP ps (r0 ++ [x])) ∈ stepsP k ps d (leftsP ps r0) := by
      rw [← hl0]
      exact (alive_step h a0 hlt (x, leftsP ps (r0 ++ [x]))).mpr ⟨a, rfl⟩
    have hit : ((leftsP ps (r0 ++ [x]), (u.1 + costW week d x, u.2 ++ [x])) : List (Option Nat) × (Nat × List Nat)) ∈ itsY k ps week d lay :=
      List.mem_flatMap.mpr ⟨_, hm, List.mem_map.mpr ⟨_, hst, rfl⟩⟩
    obtain ⟨u', h1, h3⟩ := (allB_get (its := itsY k ps week d lay) (l := [])).2 _ hit
    refine ⟨u', h1, ?_⟩
    rw [exc_snoc, hl0]
    have h4 : u'.1 ≤ u.1 + costW week d x := h3
    omega
end Fl
set_option Elab.async false
set_option linter.all false
set_option maxRecDepth 100000
set_option maxHeartbeats 1000000
namespace Fl
open L2 PySem
/-! nearest, walked -/
def keyL (os : List (Option Nat)) : NestedKey := .tup (os.map lK)
def valD (v : Nat × List Nat) : D := .tup [.int (v.1 : Int), .str v.2]
def encY (l : Lay) : List (NestedKey × D) := l.map fun p => (keyL p.1, valD p.2)
theorem keyL_inj {a b : List (Option Nat)} : keyL a = keyL b ↔ a = b := by
  constructor
  · intro h
    unfold keyL at h
    simp only [NestedKey.tup.injEq] at h
    exact lKs_inj h
  · intro h; rw [h]
theorem keyL_depth (os : List (Option Nat)) : (keyL os).depth ≤ 8 := by
  simp [keyL, NestedKey.depth, depth_lK]
theorem dk_keyL (os : List (Option Nat)) : dk (.tup (os.map lD)) = some (keyL os) := by
  simp [dk, dks_lD, keyL]
theorem enc_get : ∀ {l : Lay} {os : List (Option Nat)}, getK (encY l) (keyL os) = (getY l os).map valD
  | [], _ => rfl
  | p :: l, os => by
    have ih := enc_get (l := l) (os := os)
    unfold encY at ih ⊢
    rw [List.map_cons, getK_cons, getY_cons, ih]
    by_cases h : p.1 = os
    · rw [if_pos h, if_pos (keyL_inj.mpr h)]; rfl
    · rw [if_neg h, if_neg (fun z => h (keyL_inj.mp z))]
theorem enc_put {l : Lay} {os : List (Option Nat)} {v : Nat × List Nat} : putK (encY l) (keyL os) (valD v) = encY (putY l os v) := by
  unfold putK putY
  rw [enc_get]
  cases h : getY l os with
  | none => rw [if_neg (by simp), if_neg (by simp)]; simp [encY]
  | some u =>
    rw [if_pos (by simp), if_pos (by simp)]
    unfold encY
    rw [List.map_map, List.map_map]
    refine List.map_congr_left fun p _ => ?_
    simp only [Function.comp]
    by_cases e : p.1 = os
    · rw [if_pos e, if_pos (keyL_inj.mpr e)]
    · rw [if_neg e, if_neg (fun z => e (keyL_inj.mp z))]
theorem encY_len (l : Lay) : (encY l).length = l.length := by simp [encY]
theorem dic_inL {kvs : List (NestedKey × D)} {s : Sto} {w : Nat} {os : List (Option Nat)} (hw : s[w]? = some (.dic kvs)) : dicB s (.tup (os.map lD)) (.ob w) = some (keyL os, kvs) := by
  simp only [dicB, hw, dk_keyL, if_pos (keyL_depth os)]
theorem near_turn {k : List Nat} {week row : List Nat} {d cnt x w : Nat} {os' : List (Option Nat)} {later : Lay} {s : Sto} {a0 a1 a3 a4 a7 a10 a11 a12 a13 a14 : Option D} (hw : s[w]? = some (.dic (encY later))) (hl : later.length ≤ 16000000) (hr : row.length ≤ 1000) (hwk : week.length = 7) :
    turn (tupG [nameG 10, nameG 11]) l_nearest_1 (stD (x, os')) [a0, a1, some (.str week), a3, a4, some (.int (d : Int)), some (.ob w), a7, some (.int (cnt : Int)), some (.str row), a10, a11, a12, a13, a14] s =
      .nx [a0, a1, some (.str week), a3, a4, some (.int (d : Int)), some (.ob w), a7, some (.int (cnt : Int)), some (.str row), some (.str [x]), some (.tup (os'.map lD)), some (.int ((cnt + costW week d x : Nat) : Int)), a13, a14]
        (s.set w (.dic (encY (better later os' (cnt + costW week d x, row ++ [x]))))) := by
  have hm : d % 7 < week.length := by rw [hwk]; exact Nat.mod_lt _ (by decide)
  have hmod : ∀ s, modG s (.int (d : Int)) (.int 7) = .val (.int ((d % 7 : Nat) : Int)) s := fun s => by
    simp [modG, intCG]
  have hix : ∀ s, ixG s (.str week) (.int ((d % 7 : Nat) : Int)) = .val (.str [week[d % 7]]) s := fun s => ixG_str (by omega) (atI_nat (List.getElem?_eq_getElem hm))
  have hix2 : ∀ s, ixG s (.str week) (.int ((d : Int) % 7)) = .val (.str [week[d % 7]]) s := fun s => by
    rw [show (d : Int) % 7 = ((d % 7 : Nat) : Int) by omega]; exact hix s
  have hc : costW week d x = if x = week[d % 7] then 0 else 1 := by
    unfold costW
    rw [List.getElem?_eq_getElem hm]
    by_cases q : x = week[d % 7]
    · rw [if_pos q, if_pos (by rw [q])]
    · rw [if_neg q, if_neg (fun z => q (Option.some.inj z).symm)]
  have hadd : ∀ s, addG s (.str row) (.str [x]) = .val (.str (row ++ [x])) s := fun s => addG_str (by simp; omega)
  have hb := dic_inL (os := os') hw
  have hset : ∀ (v : Nat × List Nat) (δ : Sl), δ[6]? = some (some (.ob w)) → δ[11]? = some (some (.tup (os'.map lD))) → setD (varF 6) (varF 11) (valD v) δ s = .val δ (s.set w (.dic (encY (putY later os' v)))) := fun v δ h6 h11 => by
    unfold setD
    simp -implicitDefEqProofs [h6, h11, hb, encY_len, hl, enc_put]
  have htot : (bin addG (varF 8) (fnB intOf (con (bin neG (varF 10) (bin ixG (varF 2) (bin modG (varF 5) (cF (.int 7))))) (nil)))) [a0, a1, some (.str week), a3, a4, some (.int (d : Int)), some (.ob w), a7, some (.int (cnt : Int)), some (.str row), some (.str [x]), some (.tup (os'.map lD)), a12, a13, a14] s = .val (.int ((cnt + costW week d x : Nat) : Int)) s := by
    rw [hc]
    by_cases q : x = week[d % 7]
    · rw [if_pos q]
      simp -implicitDefEqProofs [hmod, hix2, ← q]
    · rw [if_neg q]
      simp -implicitDefEqProofs [hmod, hix2, q]
  generalize hC : cnt + costW week d x = C at *
  have hu : l_nearest_1 = seqS (setS 12 (bin addG (varF 8) (fnB intOf (con (bin neG (varF 10) (bin ixG (varF 2) (bin modG (varF 5) (cF (.int 7))))) (nil)))))
    (ifS (orT (tst (bin (inDk not) (varF 11) (varF 6))) (tst (bin ltG (varF 12) (bin ixG (bin ixDk (varF 6) (varF 11)) (cF (.int 0)))))) (asgS' (tupE (con (varF 12) (con (bin addG (varF 9) (varF 10)) (nil)))) (setD (varF 6) (varF 11))) (passS)) := rfl
  generalize (bin addG (varF 8) (fnB intOf (con (bin neG (varF 10) (bin ixG (varF 2) (bin modG (varF 5) (cF (.int 7))))) (nil)))) = TT at htot hu
  have hset2 := hset (C, row ++ [x])
  simp only [valD] at hset2
  cases hg : getY later os' with
  | none =>
    have hin : inDk not s (.tup (os'.map lD)) (.ob w) = .val (.bl true) s := by
      simp only [inDk, hb, enc_get, hg]; rfl
    have hbt : better later os' (C, row ++ [x]) = putY later os' (C, row ++ [x]) := by unfold better; rw [hg]
    rw [hbt]
    simp -implicitDefEqProofs [turn, hu, stD, htot, hin, hadd, hset2]
  | some u =>
    have hin : inDk not s (.tup (os'.map lD)) (.ob w) = .val (.bl false) s := by
      simp only [inDk, hb, enc_get, hg]; rfl
    have hixd : ixDk s (.ob w) (.tup (os'.map lD)) = .val (.tup [.int (u.1 : Int), .str u.2]) s := by
      simp only [ixDk, hb, enc_get, hg]; rfl
    by_cases q : C < u.1
    · have q' : (C : Int) < (u.1 : Int) := by omega
      have hbt : better later os' (C, row ++ [x]) = putY later os' (C, row ++ [x]) := by unfold better; rw [hg]; simp only [if_pos q]
      rw [hbt]
      simp -implicitDefEqProofs [turn, hu, stD, htot, hin, hixd, q', q, hadd, hset2]
    · have q' : ¬ (C : Int) < (u.1 : Int) := by omega
      have hbt : better later os' (C, row ++ [x]) = later := by unfold better; rw [hg]; simp only [if_neg q]
      rw [hbt, set_same hw]
      simp -implicitDefEqProofs [turn, hu, stD, htot, hin, hixd, q', q]
theorem better_len {l : Lay} {os : List (Option Nat)} {v : Nat × List Nat} : (better l os v).length ≤ l.length + 1 := by
  have hp : (putY l os v).length ≤ l.length + 1 := by
    unfold putY
    split <;> simp
  unfold better
  split
  · split
    · exact hp
    · omega
  · exact hp
theorem near_inner {k : List Nat} {week row : List Nat} {d cnt w : Nat} {a0 a1 a3 a4 a7 a13 a14 : Option D} (hr : row.length ≤ 1000) (hwk : week.length = 7) :
    ∀ (L : List (Nat × List (Option Nat))) (later : Lay) (s : Sto) (a10 a11 a12 : Option D), s[w]? = some (.dic (encY later)) → later.length + L.length ≤ 16000000 →
      ∃ b10 b11 b12, loopS (tupG [nameG 10, nameG 11]) l_nearest_1 (L.map stD) [a0, a1, some (.str week), a3, a4, some (.int (d : Int)), some (.ob w), a7, some (.int (cnt : Int)), some (.str row), a10, a11, a12, a13, a14] s =
        .nx [a0, a1, some (.str week), a3, a4, some (.int (d : Int)), some (.ob w), a7, some (.int (cnt : Int)), some (.str row), b10, b11, b12, a13, a14]
          (s.set w (.dic (encY (allB later (L.map fun st => (st.2, (cnt + costW week d st.1, row ++ [st.1])))))))
  | [], later, s, a10, a11, a12, hw, _ => ⟨a10, a11, a12, by rw [List.map_nil, List.map_nil, allB, List.foldl_nil, set_same hw]; rfl⟩
  | st :: L, later, s, a10, a11, a12, hw, hl => by
    obtain ⟨x, os'⟩ := st
    simp only [List.length_cons] at hl
    have t := near_turn (k := k) (week := week) (row := row) (d := d) (cnt := cnt) (x := x) (os' := os') (later := later) (a0 := a0) (a1 := a1) (a3 := a3) (a4 := a4) (a7 := a7) (a10 := a10) (a11 := a11) (a12 := a12) (a13 := a13) (a14 := a14) hw (by omega) hr hwk
    have hw1 : (s.set w (.dic (encY (better later os' (cnt + costW week d x, row ++ [x])))))[w]? = some (.dic (encY (better later os' (cnt + costW week d x, row ++ [x])))) := List.getElem?_set_self (List.getElem?_eq_some_iff.mp hw).1
    have hbl := better_len (l := later) (os := os') (v := (cnt + costW week d x, row ++ [x]))
    obtain ⟨b10, b11, b12, e⟩ := near_inner (k := k) (a0 := a0) (a1 := a1) (a3 := a3) (a4 := a4) (a7 := a7) (a13 := a13) (a14 := a14) (d := d) (cnt := cnt) hr hwk L _ _ (some (.str [x])) (some (.tup (os'.map lD))) (some (.int ((cnt + costW week d x : Nat) : Int))) hw1 (by omega)
    refine ⟨b10, b11, b12, ?_⟩
    rw [List.map_cons, loopS_cons t, e, List.set_set, List.map_cons]
    rfl
end Fl
set_option Elab.async false
set_option linter.all false
set_option maxRecDepth 100000
set_option maxHeartbeats 1000000
namespace Fl
open L2 PySem
/-! nearest: the loops over a layer, over the days, over the last layer -/
/-- a layer's keys: each once, and all of them allowed -/
structure LK (ps : List Pr) (lay : Lay) : Prop where
  nd : (lay.map (·.1)).Nodup
  ok : ∀ p ∈ lay, okL ps p.1
theorem LK.len {ps : List Pr} {lay : Lay} (h : LK ps lay) : lay.length ≤ sizeL ps := by
  have := nodup_sub_len (l := lay.map (·.1)) (m := allL ps) h.nd fun x hx => by
    obtain ⟨p, hp, rfl⟩ := List.mem_map.mp hx
    exact mem_allL (h.ok p hp)
  rw [List.length_map, allL_len] at this
  exact this
theorem LK.nil (ps : List Pr) : LK ps [] := ⟨List.nodup_nil, fun p hp => nomatch hp⟩
theorem getY_none {l : Lay} {os : List (Option Nat)} (h : getY l os = none) : os ∉ l.map (·.1) := by
  induction l with
  | nil => simp
  | cons p l ih =>
    rw [getY_cons] at h
    by_cases e : p.1 = os
    · rw [if_pos e] at h; cases h
    · rw [if_neg e] at h
      rw [List.map_cons, List.mem_cons]
      rintro (z | z)
      · exact e z.symm
      · exact ih h z
theorem LK.put {ps : List Pr} {lay : Lay} (h : LK ps lay) {os : List (Option Nat)} {v : Nat × List Nat} (ho : okL ps os) : LK ps (putY lay os v) := by
  constructor
  · unfold putY
    split
    · have e : (lay.map fun p => if p.1 = os then (p.1, v) else p).map (·.1) = lay.map (·.1) := by
        rw [List.map_map]
        refine List.map_congr_left fun p _ => ?_
        simp only [Function.comp]
        split <;> rfl
      rw [e]; exact h.nd
    · rename_i q
      have hn := getY_none (l := lay) (os := os) (by
        cases z : getY lay os with
        | none => rfl
        | some u => exact absurd (by rw [z]; rfl) q)
      rw [List.map_append, List.nodup_append]
      refine ⟨h.nd, by simp, fun a ha b hb => ?_⟩
      obtain rfl : b = os := by simpa using hb
      exact fun z => hn (z ▸ ha)
  · intro p hp
    rcases put_mem hp with q | q
    · exact h.ok p q
    · rw [q]; exact ho
theorem LK.better {ps : List Pr} {lay : Lay} (h : LK ps lay) {os : List (Option Nat)} {v : Nat × List Nat} (ho : okL ps os) : LK ps (better lay os v) := by
  unfold Fl.better
  split
  · split
    · exact h.put ho
    · exact h
  · exact h.put ho
theorem LK.allB {ps : List Pr} : ∀ {its lay : Lay}, LK ps lay → (∀ it ∈ its, okL ps it.1) → LK ps (allB lay its)
  | [], lay, h, _ => h
  | it :: its, lay, h, ho => LK.allB (its := its) (h.better (ho it (List.mem_cons_self ..))) fun z hz => ho z (List.mem_cons_of_mem _ hz)
theorem allB_app {l a b : Lay} : allB l (a ++ b) = allB (allB l a) b := by unfold allB; rw [List.foldl_append]
theorem near_in {ps : List Pr} {week row : List Nat} {d cnt w : Nat} {a0 a1 a3 a4 a7 a13 a14 : Option D} (hr : row.length ≤ 1000) (hwk : week.length = 7) (hsz : sizeL ps ≤ 16000000) :
    ∀ (L : List (Nat × List (Option Nat))) (later : Lay) (s : Sto) (a10 a11 a12 : Option D), s[w]? = some (.dic (encY later)) → LK ps later → (∀ st ∈ L, okL ps st.2) →
      ∃ b10 b11 b12, loopS (tupG [nameG 10, nameG 11]) l_nearest_1 (L.map stD) [a0, a1, some (.str week), a3, a4, some (.int (d : Int)), some (.ob w), a7, some (.int (cnt : Int)), some (.str row), a10, a11, a12, a13, a14] s =
        .nx [a0, a1, some (.str week), a3, a4, some (.int (d : Int)), some (.ob w), a7, some (.int (cnt : Int)), some (.str row), b10, b11, b12, a13, a14]
          (s.set w (.dic (encY (allB later (L.map fun st => (st.2, (cnt + costW week d st.1, row ++ [st.1])))))))
  | [], later, s, a10, a11, a12, hw, _, _ => ⟨a10, a11, a12, by rw [List.map_nil, List.map_nil, allB, List.foldl_nil, set_same hw]; rfl⟩
  | st :: L, later, s, a10, a11, a12, hw, hl, ho => by
    obtain ⟨x, os'⟩ := st
    have t := near_turn (k := []) (week := week) (row := row) (d := d) (cnt := cnt) (x := x) (os' := os') (later := later) (a0 := a0) (a1 := a1) (a3 := a3) (a4 := a4) (a7 := a7) (a10 := a10) (a11 := a11) (a12 := a12) (a13 := a13) (a14 := a14) hw (Nat.le_trans hl.len hsz) hr hwk
    have hw1 : (s.set w (.dic (encY (better later os' (cnt + costW week d x, row ++ [x])))))[w]? = some (.dic (encY (better later os' (cnt + costW week d x, row ++ [x])))) := List.getElem?_set_self (List.getElem?_eq_some_iff.mp hw).1
    obtain ⟨b10, b11, b12, e⟩ := near_in (ps := ps) (a0 := a0) (a1 := a1) (a3 := a3) (a4 := a4) (a7 := a7) (a13 := a13) (a14 := a14) (d := d) (cnt := cnt) hr hwk hsz L _ _ (some (.str [x])) (some (.tup (os'.map lD))) (some (.int ((cnt + costW week d x : Nat) : Int))) hw1 (hl.better (ho _ (List.mem_cons_self ..))) (fun st hst => ho st (List.mem_cons_of_mem _ hst))
    refine ⟨b10, b11, b12, ?_⟩
    rw [List.map_cons, loopS_cons t, e, List.set_set, List.map_cons]
    rfl
def itD (p : List (Option Nat) × (Nat × List Nat)) : D := .tup [.tup (p.1.map lD), valD p.2]
def stI (week : List Nat) (d : Nat) (v : Nat × List Nat) (st : Nat × List (Option Nat)) : List (Option Nat) × (Nat × List Nat) := (st.2, (v.1 + costW week d st.1, v.2 ++ [st.1]))
theorem itsY_cons {k : List Nat} {ps : List Pr} {week : List Nat} {d : Nat} {p : List (Option Nat) × (Nat × List Nat)} {lay : Lay} : itsY k ps week d (p :: lay) = (stepsP k ps d p.1).map (stI week d p.2) ++ itsY k ps week d lay := rfl
theorem near_turn2 {k : List Nat} {ps : List Pr} {week : List Nat} {d w t w0 : Nat} {p : List (Option Nat) × (Nat × List Nat)} {later : Lay} {s : Sto} {a0 a1 a4 a7 a8 a9 a10 a11 a12 a13 a14 : Option D} (c : PsOk k ps) (ht : s[t]? = some (tabO k ps w0)) (hw : s[w]? = some (.dic (encY later))) (hd : d < k.length) (hwk : week.length = 7) (hsz : sizeL ps ≤ 16000000) (hL : LK ps later) (ho : okL ps p.1) (hr : p.2.2.length ≤ 1000) :
    ∃ b7 b8 b9 b10 b11 b12, turn (tupG [nameG 7, tupG [nameG 8, nameG 9]]) l_nearest_2 (itD p) [a0, a1, some (.str week), some (.ob t), a4, some (.int (d : Int)), some (.ob w), a7, a8, a9, a10, a11, a12, a13, a14] s =
      .nx [a0, a1, some (.str week), some (.ob t), a4, some (.int (d : Int)), some (.ob w), b7, b8, b9, b10, b11, b12, a13, a14] (s.set w (.dic (encY (allB later ((stepsP k ps d p.1).map (stI week d p.2)))))) := by
  obtain ⟨os, cnt, row⟩ := p
  obtain ⟨b10, b11, b12, e⟩ := near_in (ps := ps) (week := week) (row := row) (d := d) (cnt := cnt) (w := w) (a0 := a0) (a1 := a1) (a3 := some (.ob t)) (a4 := a4) (a7 := some (.tup (os.map lD))) (a13 := a13) (a14 := a14) hr hwk hsz (stepsP k ps d os) later s a10 a11 a12 hw hL (fun st hst => (stepsP_ok ho st hst).1)
  refine ⟨some (.tup (os.map lD)), some (.int (cnt : Int)), some (.str row), b10, b11, b12, ?_⟩
  have hst := steps_spec (os := os) c ht hd (okL_len ho)
  have hmeth : methF 0 3 m_Table_steps (varF 3) (con (varF 5) (con (varF 7) (nil))) [a0, a1, some (.str week), some (.ob t), a4, some (.int (d : Int)), some (.ob w), some (.tup (os.map lD)), some (.int (cnt : Int)), some (.str row), a10, a11, a12, a13, a14] s = .val (.lst ((stepsP k ps d os).map stD)) s := by
    unfold methF
    simp -implicitDefEqProofs [ht, tabO, hst]
  have hm : (stepsP k ps d os).map (stI week d (cnt, row)) = (stepsP k ps d os).map fun st => (st.2, (cnt + costW week d st.1, row ++ [st.1])) := rfl
  rw [hm]
  simp -implicitDefEqProofs [turn, itD, valD, l_nearest_2, hmeth, e]
theorem near_mid {k : List Nat} {ps : List Pr} {week : List Nat} {d w t w0 : Nat} {a0 a1 a4 a13 a14 : Option D} (c : PsOk k ps) (hd : d < k.length) (hwk : week.length = 7) (hsz : sizeL ps ≤ 16000000) (htw : t ≠ w) :
    ∀ (lay later : Lay) (s : Sto) (a7 a8 a9 a10 a11 a12 : Option D), s[t]? = some (tabO k ps w0) → s[w]? = some (.dic (encY later)) → LK ps later → (∀ p ∈ lay, okL ps p.1 ∧ p.2.2.length ≤ 1000) →
      ∃ b7 b8 b9 b10 b11 b12, loopS (tupG [nameG 7, tupG [nameG 8, nameG 9]]) l_nearest_2 (lay.map itD) [a0, a1, some (.str week), some (.ob t), a4, some (.int (d : Int)), some (.ob w), a7, a8, a9, a10, a11, a12, a13, a14] s =
        .nx [a0, a1, some (.str week), some (.ob t), a4, some (.int (d : Int)), some (.ob w), b7, b8, b9, b10, b11, b12, a13, a14] (s.set w (.dic (encY (allB later (itsY k ps week d lay))))) ∧ LK ps (allB later (itsY k ps week d lay))
  | [], later, s, a7, a8, a9, a10, a11, a12, ht, hw, hL, _ => ⟨a7, a8, a9, a10, a11, a12, by
      have : itsY k ps week d [] = [] := rfl
      rw [this, allB, List.foldl_nil, set_same hw]; rfl, hL⟩
  | p :: lay, later, s, a7, a8, a9, a10, a11, a12, ht, hw, hL, ho => by
    obtain ⟨o1, r1⟩ := ho p (List.mem_cons_self ..)
    obtain ⟨c7, c8, c9, c10, c11, c12, e1⟩ := near_turn2 (a0 := a0) (a1 := a1) (a4 := a4) (a7 := a7) (a8 := a8) (a9 := a9) (a10 := a10) (a11 := a11) (a12 := a12) (a13 := a13) (a14 := a14) c ht hw hd hwk hsz hL o1 r1
    have hL1 : LK ps (allB later ((stepsP k ps d p.1).map (stI week d p.2))) := hL.allB fun it hit => by
      obtain ⟨st, hst, rfl⟩ := List.mem_map.mp hit
      exact (stepsP_ok o1 st hst).1
    have hw1 : (s.set w (.dic (encY (allB later ((stepsP k ps d p.1).map (stI week d p.2))))))[w]? = some (.dic (encY (allB later ((stepsP k ps d p.1).map (stI week d p.2))))) := List.getElem?_set_self (List.getElem?_eq_some_iff.mp hw).1
    have ht1 : (s.set w (.dic (encY (allB later ((stepsP k ps d p.1).map (stI week d p.2))))))[t]? = some (tabO k ps w0) := by rw [List.getElem?_set_ne (Ne.symm htw)]; exact ht
    obtain ⟨b7, b8, b9, b10, b11, b12, e2, h2⟩ := near_mid (a0 := a0) (a1 := a1) (a4 := a4) (a13 := a13) (a14 := a14) c hd hwk hsz htw lay _ _ c7 c8 c9 c10 c11 c12 ht1 hw1 hL1 (fun q hq => ho q (List.mem_cons_of_mem _ hq))
    refine ⟨b7, b8, b9, b10, b11, b12, ?_, ?_⟩
    · rw [List.map_cons, loopS_cons e1, e2, List.set_set, itsY_cons, allB_app]
    · rw [itsY_cons, allB_app]; exact h2
theorem kd_keyL (os : List (Option Nat)) : kd (keyL os) = .tup (os.map lD) := by
  have h : ∀ l : List (Option Nat), kds (l.map lK) = l.map lD := fun l => by
    induction l with
    | nil => simp [kds]
    | cons o l ih =>
      rw [List.map_cons, List.map_cons]
      unfold kds
      rw [ih]
      cases o <;> simp [lK, lD, kd]
  unfold keyL kd
  rw [h]
theorem walk_enc {lay : Lay} {s : Sto} {j : Nat} {i : Nat} {δ : Sl} (hδ : δ[i]? = some (some (.ob j))) (hj : s[j]? = some (.dic (encY lay))) : walkD (varF i) δ s = .val (lay.map itD) (s.set j .dead) := by
  have hf : flats ((encY lay).map (·.2)) = true := by
    unfold flats encY
    rw [List.map_map, List.all_map, List.all_eq_true]
    intro p _; rfl
  have he : (encY lay).map (fun p => D.tup [kd p.1, p.2]) = lay.map itD := by
    unfold encY
    rw [List.map_map]
    refine List.map_congr_left fun p _ => ?_
    simp only [Function.comp, kd_keyL]
    rfl
  unfold walkD
  simp only [varF, hδ, O.bind_val, hj, if_pos hf, he]
/-- a state behind some days -/
structure NS (k : List Nat) (ps : List Pr) (week : List Nat) (s : Sto) (d : Nat) (δ : Sl) (S : Sto) : Prop where
  sl : ∃ b5 b6 b7 b8 b9 b10 b11 b12 b13 b14 j lay, δ = [some (.str k), some (.tup (ps.map Pr.d)), some (.str week), some (.ob s.length), some (.ob j), b5, b6, b7, b8, b9, b10, b11, b12, b13, b14] ∧ s.length < j ∧ S[j]? = some (.dic (encY lay)) ∧ LI k ps week d lay ∧ LK ps lay
  st : ∃ ex, S = s ++ ex
  tb : S[s.length]? = some (tabO k ps (s.length + 1))
theorem near_day {k : List Nat} {ps : List Pr} {week : List Nat} {s S : Sto} {d : Nat} {δ : Sl} (c : PsOk k ps) (hd : d < k.length) (hwk : week.length = 7) (hsz : sizeL ps ≤ 16000000) (I : NS k ps week s d δ S) :
    ∃ δ2 S2, turn (nameG 5) l_nearest_3 (.int (d : Int)) δ S = .nx δ2 S2 ∧ NS k ps week s (d + 1) δ2 S2 := by
  obtain ⟨⟨b5, b6, b7, b8, b9, b10, b11, b12, b13, b14, j, lay, rfl, hj, hjl, li, lk⟩, ⟨ex, hS⟩, htb⟩ := I
  have hse : ∀ p ∈ ps, p.s ≤ p.e := fun p hp => (c.ok p hp).se
  have hjS : j < S.length := (List.getElem?_eq_some_iff.mp hjl).1
  have hj1 : (S ++ [SO.dic []])[j]? = some (.dic (encY lay)) := by rw [List.getElem?_append_left hjS]; exact hjl
  have ht1 : ((S ++ [SO.dic []]).set j .dead)[s.length]? = some (tabO k ps (s.length + 1)) := by
    rw [List.getElem?_set_ne (by omega), List.getElem?_append_left (List.getElem?_eq_some_iff.mp htb).1]; exact htb
  have hw1 : ((S ++ [SO.dic []]).set j .dead)[S.length]? = some (.dic (encY [])) := by
    rw [List.getElem?_set_ne (by omega)]; simp [encY]
  obtain ⟨c7, c8, c9, c10, c11, c12, e, lk2⟩ := near_mid (week := week) (d := d) (w := S.length) (t := s.length) (w0 := s.length + 1) (a0 := some (.str k)) (a1 := some (.tup (ps.map Pr.d))) (a4 := some (.ob j)) (a13 := b13) (a14 := b14) c hd hwk hsz (by omega) lay [] _ b7 b8 b9 b10 b11 b12 ht1 hw1 (LK.nil ps) (fun p hp => ⟨lk.ok p hp, by have := (li.sound p hp).1.len; have := c.kl; omega⟩)
  have hwalk : walkD (varF 4) [some (.str k), some (.tup (ps.map Pr.d)), some (.str week), some (.ob s.length), some (.ob j), some (.int (d : Int)), some (.ob S.length), b7, b8, b9, b10, b11, b12, b13, b14] (S ++ [SO.dic []]) = .val (lay.map itD) ((S ++ [SO.dic []]).set j .dead) := walk_enc rfl hj1
  generalize hL : allB [] (itsY k ps week d lay) = L at e lk2
  have li2 : LI k ps week (d + 1) L := by rw [← hL]; exact li.step hse hd
  refine ⟨_, ((S ++ [SO.dic []]).set j .dead).set S.length (.dic (encY L)), ?_, ⟨some (.int (d : Int)), some (.ob S.length), c7, c8, c9, c10, c11, c12, b13, b14, S.length, L, rfl, by omega, ?_, li2, lk2⟩, ?_, ?_⟩
  · have hdic : ∀ δ, dicE δ S = .val (.ob S.length) (S ++ [.dic []]) := fun _ => rfl
    generalize hS1 : (S ++ [SO.dic []]) = S1 at hwalk e hdic
    generalize hS2 : S1.set j .dead = S2 at hwalk e
    simp -implicitDefEqProofs [turn, l_nearest_3, hdic, hwalk, e, hS2]
  · exact List.getElem?_set_self (by simp)
  · subst hS
    refine ⟨((ex ++ [SO.dic []]).set (j - s.length) .dead).set ex.length (.dic (encY L)), ?_⟩
    rw [List.append_assoc, List.set_append_right _ _ (by omega), List.set_append_right _ _ (by simp)]
    simp
  · rw [List.getElem?_set_ne (by omega)]; exact ht1
theorem alive_rows {k : List Nat} {ps : List Pr} {r : List Nat} (hk : Kn k) (h : ∀ p ∈ ps, p.ok k.length) : (Alive k ps r ∧ r.length = k.length) ↔ r ∈ rowsR k ps := by
  rw [rows_mem hk]
  constructor
  · rintro ⟨a, hl⟩
    have hg := goes_iff.mp a.goes
    refine ⟨fun x hx => ?_, hl, fun d hd => ?_, (goes_keeps hl h).mp a.goes⟩
    · obtain ⟨i, hi⟩ := List.getElem?_of_mem hx
      have := (a.day i x hi).2
      omega
    · have hr := List.getElem?_eq_getElem (l := r) (i := d) (by omega)
      have := (a.day d _ hr).1
      unfold dayK at this
      rw [Bool.or_eq_true] at this
      rcases this with q | q
      · exact .inr (by rw [hr]; exact beq_iff_eq.mp q)
      · exact .inl (beq_iff_eq.mp q)
  · intro f
    refine ⟨⟨by rw [f.len]; exact Nat.le_refl _, fun j x hx => ?_, (goes_keeps f.len h).mpr f.kp⟩, f.len⟩
    have hj := (List.getElem?_eq_some_iff.mp hx).1
    have hx2 := f.row x (List.mem_of_getElem? hx)
    refine ⟨?_, by omega⟩
    unfold dayK
    rw [Bool.or_eq_true]
    rcases f.day j (by rw [← f.len]; exact hj) with q | q
    · exact .inr (by rw [q]; rfl)
    · exact .inl (by rw [q, hx]; simp)
theorem LI.zero {k : List Nat} {ps : List Pr} {week : List Nat} : LI k ps week 0 [(leftsP ps [], (0, []))] := by
  constructor
  · intro p hp
    obtain rfl : p = (leftsP ps [], (0, [])) := by simpa using hp
    exact ⟨⟨by simp, fun j x hx => by simp at hx, rfl⟩, rfl, rfl, rfl⟩
  · intro r _ hr
    obtain rfl : r = [] := List.length_eq_zero_iff.mp hr
    exact ⟨(0, []), by rw [getY_cons, if_pos rfl], Nat.le_refl _⟩
/-! the best of the last layer -/
def bestY : Option (Nat × List Nat) → Lay → Option (Nat × List Nat)
  | b, [] => b
  | none, p :: lay => bestY (some p.2) lay
  | some u, p :: lay => bestY (some (if p.2.1 < u.1 then p.2 else u)) lay
def bD : Option (Nat × List Nat) → D
  | none => .non
  | some v => valD v
theorem near_best {a0 a1 a2 a3 a4 a5 a6 a8 a9 a10 a11 a12 : Option D} {S : Sto} : ∀ (lay : Lay) (b : Option (Nat × List Nat)) (a7 a14 : Option D),
    ∃ b7 b14, loopS (tupG [nameG 7, nameG 14]) l_nearest_4 (lay.map itD) [a0, a1, a2, a3, a4, a5, a6, a7, a8, a9, a10, a11, a12, some (bD b), a14] S = .nx [a0, a1, a2, a3, a4, a5, a6, b7, a8, a9, a10, a11, a12, some (bD (bestY b lay)), b14] S
  | [], b, a7, a14 => ⟨a7, a14, by cases b <;> rfl⟩
  | p :: lay, none, a7, a14 => by
    obtain ⟨b7, b14, e⟩ := near_best (a0 := a0) (a1 := a1) (a2 := a2) (a3 := a3) (a4 := a4) (a5 := a5) (a6 := a6) (a8 := a8) (a9 := a9) (a10 := a10) (a11 := a11) (a12 := a12) (S := S) lay (some p.2) (some (.tup (p.1.map lD))) (some (valD p.2))
    refine ⟨b7, b14, ?_⟩
    have t : turn (tupG [nameG 7, nameG 14]) l_nearest_4 (itD p) [a0, a1, a2, a3, a4, a5, a6, a7, a8, a9, a10, a11, a12, some (bD none), a14] S = .nx [a0, a1, a2, a3, a4, a5, a6, some (.tup (p.1.map lD)), a8, a9, a10, a11, a12, some (bD (some p.2)), some (valD p.2)] S := by
      simp -implicitDefEqProofs [turn, itD, l_nearest_4, bD]
    rw [List.map_cons, loopS_cons t, e]
    rfl
  | p :: lay, some u, a7, a14 => by
    obtain ⟨b7, b14, e⟩ := near_best (a0 := a0) (a1 := a1) (a2 := a2) (a3 := a3) (a4 := a4) (a5 := a5) (a6 := a6) (a8 := a8) (a9 := a9) (a10 := a10) (a11 := a11) (a12 := a12) (S := S) lay (some (if p.2.1 < u.1 then p.2 else u)) (some (.tup (p.1.map lD))) (some (valD p.2))
    refine ⟨b7, b14, ?_⟩
    have hn : isNG S (.tup [.int (u.1 : Int), .str u.2]) .non = .val (.bl false) S := rfl
    have t : turn (tupG [nameG 7, nameG 14]) l_nearest_4 (itD p) [a0, a1, a2, a3, a4, a5, a6, a7, a8, a9, a10, a11, a12, some (bD (some u)), a14] S = .nx [a0, a1, a2, a3, a4, a5, a6, some (.tup (p.1.map lD)), a8, a9, a10, a11, a12, some (bD (some (if p.2.1 < u.1 then p.2 else u))), some (valD p.2)] S := by
      by_cases q : p.2.1 < u.1
      · have q' : (p.2.1 : Int) < (u.1 : Int) := by omega
        rw [if_pos q]
        simp -implicitDefEqProofs [turn, itD, l_nearest_4, bD, hn, valD, q, q']
      · have q' : ¬ (p.2.1 : Int) < (u.1 : Int) := by omega
        rw [if_neg q]
        simp -implicitDefEqProofs [turn, itD, l_nearest_4, bD, hn, valD, q, q']
    rw [List.map_cons, loopS_cons t, e]
    rfl
theorem best_some : ∀ (lay : Lay) (u : Nat × List Nat), ∃ v, bestY (some u) lay = some v ∧ (v = u ∨ ∃ p ∈ lay, p.2 = v) ∧ v.1 ≤ u.1 ∧ ∀ p ∈ lay, v.1 ≤ p.2.1
  | [], u => ⟨u, rfl, .inl rfl, Nat.le_refl _, fun p hp => nomatch hp⟩
  | p :: lay, u => by
    obtain ⟨v, e, m, l, a⟩ := best_some lay (if p.2.1 < u.1 then p.2 else u)
    refine ⟨v, e, ?_, ?_, fun q hq => ?_⟩
    · rcases m with m | ⟨q, hq, rfl⟩
      · by_cases z : p.2.1 < u.1
        · rw [if_pos z] at m; exact .inr ⟨p, List.mem_cons_self .., m.symm⟩
        · rw [if_neg z] at m; exact .inl m
      · exact .inr ⟨q, List.mem_cons_of_mem _ hq, rfl⟩
    · split at l <;> omega
    · rcases List.mem_cons.mp hq with rfl | hq
      · split at l <;> omega
      · exact a q hq
theorem best_none (lay : Lay) : (lay = [] ∧ bestY none lay = none) ∨ ∃ v, bestY none lay = some v ∧ (∃ p ∈ lay, p.2 = v) ∧ ∀ p ∈ lay, v.1 ≤ p.2.1 := by
  cases lay with
  | nil => exact .inl ⟨rfl, rfl⟩
  | cons p lay =>
    obtain ⟨v, e, m, l, a⟩ := best_some lay p.2
    refine .inr ⟨v, e, ?_, fun q hq => ?_⟩
    · rcases m with rfl | ⟨q, hq, rfl⟩
      · exact ⟨p, List.mem_cons_self .., rfl⟩
      · exact ⟨q, List.mem_cons_of_mem _ hq, rfl⟩
    · rcases List.mem_cons.mp hq with rfl | hq
      · exact l
      · exact a q hq
/-- what nearest answers -/
structure NearOk (k : List Nat) (ps : List Pr) (week : List Nat) (b : Option (Nat × List Nat)) : Prop where
  no : b = none → rowsR k ps = []
  so : ∀ v, b = some v → v.2 ∈ rowsR k ps ∧ v.1 = excW week v.2 ∧ ∀ r ∈ rowsR k ps, v.1 ≤ excW week r
theorem LI.near {k : List Nat} {ps : List Pr} {week : List Nat} {lay : Lay} (hk : Kn k) (h : ∀ p ∈ ps, p.ok k.length) (li : LI k ps week k.length lay) : NearOk k ps week (bestY none lay) := by
  rcases best_none lay with ⟨rfl, e⟩ | ⟨v, e, ⟨p, hp, rfl⟩, a⟩
  · rw [e]
    refine ⟨fun _ => List.eq_nil_iff_forall_not_mem.mpr fun r hr => ?_, fun v hv => nomatch hv⟩
    obtain ⟨a, hl⟩ := (alive_rows hk h).mpr hr
    obtain ⟨u, hu, _⟩ := li.comp r a hl
    cases hu
  · rw [e]
    refine ⟨fun z => (nomatch z), fun v hv => ?_⟩
    cases hv
    obtain ⟨s1, s2, s3, s4⟩ := li.sound p hp
    refine ⟨(alive_rows hk h).mp ⟨s1, s2⟩, s4, fun r hr => ?_⟩
    obtain ⟨a', hl⟩ := (alive_rows hk h).mpr hr
    obtain ⟨u, hu, le⟩ := li.comp r a' hl
    have := a _ (getY_mem hu)
    have h2 : p.2.1 ≤ u.1 := this
    omega
theorem near_spec {k : List Nat} {ps : List Pr} {week : List Nat} (s : Sto) (c : PsOk k ps) (hwk : week.length = 7) (hsz : sizeL ps ≤ 16000000) :
    ∃ b, NearOk k ps week b ∧ m_nearest [.str k, .tup (ps.map Pr.d), .str week] s = .val (bD b) s := by
  have mk : ∀ δ : Sl, δ[0]? = some (some (.str k)) → δ[1]? = some (some (.tup (ps.map Pr.d))) → makeF 0 3 m_TableD__initD_ (con (varF 0) (con (varF 1) (nil))) δ s = .val (.ob s.length) (madeT k ps s) := fun δ h0 h1 => makeT h0 h1
  have hL : ∀ s, lenG s [.tup (ps.map Pr.d)] = .val (.int (ps.length : Int)) s := fun s => by
    rw [lenG_tup]; simp
  have hLk : ∀ s, lenG s [.str k] = .val (.int k.length) s := fun s => lenG_str (by have := c.kl; omega)
  have hmul : ∀ s, mulT s (.tup [.non]) (.int (ps.length : Int)) = .val (.tup ((leftsP ps []).map lD)) s := fun s => mulT0 c.pl
  have hdic : ∀ δ : Sl, δ[1]? = some (some (.tup (ps.map Pr.d))) → dic1E (bin mulT (tupE (con (cF .non) (nil))) (fnB lenG (con (varF 1) (nil)))) (tupE (con (cF (.int 0)) (con (cF (.str [])) (nil)))) δ (madeT k ps s) = .val (.ob (s.length + 2)) (madeT k ps s ++ [.dic (encY [(leftsP ps [], (0, []))])]) := fun δ h1 => by
    have hdk := dk_keyL (leftsP ps [])
    have hdp := keyL_depth (leftsP ps [])
    have hlen : (madeT k ps s).length = s.length + 2 := by simp [madeT]
    unfold dic1E
    simp -implicitDefEqProofs [h1, hL, hmul, hdk, hdp, hlen, encY, valD]
  have I0 : NS k ps week s 0 [some (.str k), some (.tup (ps.map Pr.d)), some (.str week), some (.ob s.length), some (.ob (s.length + 2)), none, none, none, none, none, none, none, none, none, none] (madeT k ps s ++ [.dic (encY [(leftsP ps [], (0, []))])]) := by
    refine ⟨⟨_, _, _, _, _, _, _, _, _, _, s.length + 2, [(leftsP ps [], (0, []))], rfl, by omega, ?_, LI.zero, ⟨by simp, fun p hp => ?_⟩⟩, ⟨[tabO k ps (s.length + 1), .dic [], .dic (encY [(leftsP ps [], (0, []))])], by simp [madeT]⟩, by simp [madeT]⟩
    · rw [List.getElem?_append_right (by simp [madeT])]; simp [madeT]
    · obtain rfl : p = (leftsP ps [], (0, [])) := by simpa using hp
      exact okL0 ps
  obtain ⟨δ1, S1, e1, I1⟩ := loop_inv (g := nameG 5) (body := l_nearest_3) (xs := upI 0 k.length) (fun i δ S => NS k ps week s i δ S)
    (fun i x δ S hx I => by
      obtain ⟨rfl, hi⟩ := upI_get hx
      rw [show (0 : Int) + (i : Int) = (i : Int) by omega]
      exact near_day c hi hwk hsz I) I0
  rw [upI_len] at I1
  obtain ⟨⟨b5, b6, b7, b8, b9, b10, b11, b12, b13, b14, j, lay, rfl, hj, hjl, li, lk⟩, ⟨ex, hS⟩, htb⟩ := I1
  refine ⟨bestY none lay, li.near c.kn c.ok, ?_⟩
  obtain ⟨d7, d14, eb⟩ := near_best (a0 := some (.str k)) (a1 := some (.tup (ps.map Pr.d))) (a2 := some (.str week)) (a3 := some (.ob s.length)) (a4 := some (.ob j)) (a5 := b5) (a6 := b6) (a8 := b8) (a9 := b9) (a10 := b10) (a11 := b11) (a12 := b12) (S := S1.set j .dead) lay none b7 b14
  have hwalk : ∀ b13 : Option D, walkD (varF 4) [some (.str k), some (.tup (ps.map Pr.d)), some (.str week), some (.ob s.length), some (.ob j), b5, b6, b7, b8, b9, b10, b11, b12, b13, b14] S1 = .val (lay.map itD) (S1.set j .dead) := fun _ => walk_enc rfl hjl
  have hset : S1.set j .dead = s ++ ex.set (j - s.length) .dead := by rw [hS, List.set_append_right _ _ (by omega)]
  rw [hset] at eb hwalk
  have hsm : sm (k.length : Int) = true := sm_nat (by have := c.kl; omega)
  have hlow : low s.length (bD (bestY none lay)) = true := by
    cases bestY none lay <;> rfl
  rw [show bD none = .non from rfl] at eb
  generalize hM : madeT k ps s = M at mk hdic e1
  generalize hbb : (bestY none lay) = bb at eb hlow
  simp -implicitDefEqProofs [m_nearest, fnF, b_nearest, N_nearest, startD, mk, hdic, hLk, hsm, e1, hwalk, eb, chk_app, hlow]
theorem fewest_spec {k : List Nat} {ps : List Pr} {week : List Nat} (s : Sto) (c : PsOk k ps) (hwk : week.length = 7) (hsz : sizeL ps ≤ 16000000) :
    ∃ b, NearOk k ps week b ∧ m_fewest_exceptions [.str k, .tup (ps.map Pr.d), .str week] s = .val (match b with | none => .non | some v => .int (v.1 : Int)) s ∧ m_row_near [.str k, .tup (ps.map Pr.d), .str week] s = .val (match b with | none => .non | some v => .str v.2) s := by
  obtain ⟨b, h, e⟩ := near_spec s c hwk hsz
  refine ⟨b, h, ?_, ?_⟩
  · cases b with
    | none =>
      simp only [bD] at e
      simp -implicitDefEqProofs [m_fewest_exceptions, fnF, b_fewest_exceptions, N_fewest_exceptions, startD, e]
    | some v =>
      simp only [bD, valD] at e
      simp -implicitDefEqProofs [m_fewest_exceptions, fnF, b_fewest_exceptions, N_fewest_exceptions, startD, e, isnt_tup]
  · cases b with
    | none =>
      simp only [bD] at e
      simp -implicitDefEqProofs [m_row_near, fnF, b_row_near, N_row_near, startD, e]
    | some v =>
      simp only [bD, valD] at e
      simp -implicitDefEqProofs [m_row_near, fnF, b_row_near, N_row_near, startD, e, isnt_tup]
end Fl
set_option Elab.async false
set_option linter.all false
set_option maxRecDepth 100000
set_option maxHeartbeats 2000000
namespace Fl
open L2 PySem
/-! law k12 -/
theorem exc_spec {s : Sto} {r week : List Nat} (hl : r.length ≤ 1000) (hwk : week.length = 7) : m_law_exceptions [.str r, .str week] s = .val (.int (excW week r : Nat)) s := by
  have comp : ∀ δ, loopC (nameG 2) (tst (bin neG (bin ixG (varF 0) (varF 2)) (bin ixG (varF 1) (bin modG (varF 2) (cF (.int 7)))))) (varF 2) [some (.str r), some (.str week), δ] (upI 0 r.length) [] s = .val (((List.range r.length).filter fun i => !(week[i % 7]? == r[i]?)).map fun (i : Nat) => D.int (0 + (i : Int))) s := fun δ => by
    unfold upI
    rw [loopC_mapf (fun (j : Nat) => D.int (0 + (j : Int))) (fun i => !(week[i % 7]? == r[i]?)) (fun (j : Nat) => D.int (0 + (j : Int))) (List.range r.length) [] (fun j hj => ?_) (by simp; omega)]
    · rfl
    · have hj' := List.mem_range.mp hj
      have hm : j % 7 < week.length := by rw [hwk]; exact Nat.mod_lt _ (by decide)
      have i1 : ∀ s, ixG s (.str r) (.int (j : Int)) = .val (.str [r[j]]) s := fun s => ixG_str (by omega) (atI_nat (List.getElem?_eq_getElem hj'))
      have i2 : ∀ s, ixG s (.str week) (.int ((j : Int) % 7)) = .val (.str [week[j % 7]]) s := fun s => by
        rw [show (j : Int) % 7 = ((j % 7 : Nat) : Int) by omega]
        exact ixG_str (by omega) (atI_nat (List.getElem?_eq_getElem hm))
      have hmod : ∀ s, modG s (.int (j : Int)) (.int 7) = .val (.int ((j : Int) % 7)) s := fun s => modG_int (by omega)
      refine ⟨_, rfl, ?_, fun _ => ⟨rfl, rfl⟩⟩
      · simp -implicitDefEqProofs [i1, i2, hmod, List.getElem?_eq_getElem hj', List.getElem?_eq_getElem hm]
        rw [Bool.eq_iff_iff]
        rw [beq_iff_eq, beq_iff_eq]; exact eq_comm
  have hL : ∀ s, lenG s [.str r] = .val (.int r.length) s := fun s => lenG_str (by omega)
  simp -implicitDefEqProofs [m_law_exceptions, fnF, b_law_exceptions, N_law_exceptions, startD, wipeD, hL, sm_nat (show r.length ≤ 1000000 by omega), comp]
  rfl
theorem case_spec5 {t : Nat} {s : Sto} {days most : Int} (h : Tap t s) (hd1 : 1 ≤ days) (hd : days ≤ 90) (hm : 0 ≤ most) (hm2 : most ≤ 1000) :
    ∃ (k : List Nat) (ps : List Pr) (s' : Sto), m_law_case [.ob t, .int days, .int most] s = .val (.tup [.str k, .tup (ps.map Pr.d)]) s' ∧ Dr t s s' ∧ Case k ps ∧ 1 ≤ k.length ∧ (k.length : Int) ≤ days ∧ (ps.length : Int) ≤ most ∧ ∀ p ∈ ps, p.c ≤ 5 := by
  obtain ⟨v, s1, e1, d1, v0, v1⟩ := draw (many := days) h (by omega) (by omega)
  have T1 := h.dr d1
  obtain ⟨r, s2, e2, d2, hl, hr⟩ := row_spec (n := 1 + v) T1 (by omega) (by omega)
  have T2 := T1.dr d2
  obtain ⟨k, s3, e3, d3, hk, hkk⟩ := masked_spec (r := r) T2 (by omega)
  have T3 := T2.dr d3
  obtain ⟨ps, s4, e4, d4, hp, hps⟩ := promises_spec5 (r := r) (most := most) T3 (by omega) (by omega) hr hm hm2
  have D4 := ((d1.trans d2).trans d3).trans d4
  refine ⟨k, ps, s4, ?_, D4, ⟨masked_kn hr hk hkk, by omega, by rw [hk]; exact fun p hp' => (hp p hp').1⟩, by omega, by omega, hps, fun p hp' => (hp p hp').2⟩
  simp -implicitDefEqProofs [m_law_case, fnF, b_law_case, N_law_case, startD, e1, e2, e3, e4, D4.take, D4.chk]
/-- the week of a turn -/
theorem k12_week {k : List Nat} {ps : List Pr} {s : Sto} {a0 a2 a3 a4 a6 a7 a8 a9 a10 a11 : Option D} (T : Tap 0 s) (c : Case k ps) (hk : k.length ≤ 1000) (hR : (rowsR k ps).length ≤ 100000) (rest : SF) :
    ∃ week s', week.length = 7 ∧ Dr 0 s s' ∧ (seqS (setS 7 (callF 2 m_law_row (con (varF 1) (con (cF (.int 7)) (nil)))))
    (seqS (ifS (andT (tst (bin neG (varF 5) (lstE (nil)))) (tst (bin eqG (callF 2 m_law_draw (con (varF 1) (con (cF (.int 2)) (nil)))) (cF (.int 0))))) (setS 7 (slF slG (bin addG (bin ixG (varF 5) (callF 2 m_law_draw (con (varF 1) (con (fnB lenG (con (varF 5) (nil))) (nil))))) (varF 7)) noP (parF (cF (.int 7))))) (passS)) rest)) [a0, some (.ob 0), a2, a3, a4, some (.lst (strsL (rowsR k ps))), a6, a7, a8, a9, a10, a11] s =
      rest [a0, some (.ob 0), a2, a3, a4, some (.lst (strsL (rowsR k ps))), a6, some (.str week), a8, a9, a10, a11] s' := by
  obtain ⟨w0, s1, e1, d1, hw0, _⟩ := row_spec (n := 7) T (by decide) (by decide)
  have T1 := T.dr d1
  have hw7 : w0.length = 7 := by omega
  have hn0 := fun s => ne_nil (s := s) (Nat.le_trans (strs_deps (rowsR k ps)) (show 0 ≤ 59 by decide))
  have hse : (strsL (rowsR k ps)).isEmpty = (rowsR k ps).isEmpty := by unfold strsL; rw [List.isEmpty_map]
  rw [hse] at hn0
  by_cases g : rowsR k ps = []
  · refine ⟨w0, s1, hw7, d1, ?_⟩
    rw [g] at hn0 ⊢
    simp -implicitDefEqProofs [-neG_def, e1, hn0]
  · have he : (rowsR k ps).isEmpty = false := by
      cases q : rowsR k ps with
      | nil => exact absurd q g
      | cons a l => rfl
    rw [he] at hn0
    obtain ⟨v, s2, e2, d2, v0, v1⟩ := draw (many := 2) T1 (by decide) (by decide)
    have T2 := T1.dr d2
    by_cases hv : v = 0
    · subst hv
      have hpos : 0 < (rowsR k ps).length := List.length_pos_iff.mpr g
      obtain ⟨u, s3, e3, d3, u0, u1⟩ := draw (many := ((rowsR k ps).length : Nat)) T2 (by omega) (by omega)
      obtain ⟨n, rfl⟩ : ∃ n : Nat, u = n := ⟨u.toNat, by omega⟩
      have hn : n < (rowsR k ps).length := by omega
      obtain ⟨q, hq⟩ : ∃ q, (rowsR k ps)[n]? = some q := ⟨_, List.getElem?_eq_getElem hn⟩
      have hql : q.length = k.length := ((rows_mem c.kn q).mp (List.mem_of_getElem? hq)).len
      have hix : ∀ s, ixG s (.lst (strsL (rowsR k ps))) (.int (n : Int)) = .val (.str q) s := fun s => ixG_lst (atI_nat (by unfold strsL; rw [List.getElem?_map, hq]; rfl))
      have hadd : ∀ s, addG s (.str q) (.str w0) = .val (.str (q ++ w0)) s := fun s => addG_str (by omega)
      have hsl : ∀ s, slG s (.str (q ++ w0)) none (some 7) = .val (.str ((q ++ w0).take 7)) s := fun s => by
        have : cutD (q ++ w0) none (some ((7 : Nat) : Int)) = (q ++ w0).take 7 := cut_take (by simp; omega)
        simp only [slG, view_str]
        rw [if_pos (by simp; omega)]
        rw [← this]; rfl
      have hlen : ((strsL (rowsR k ps)).length : Int) = ((rowsR k ps).length : Nat) := by simp [strsL]
      refine ⟨(q ++ w0).take 7, s3, by simp; omega, (d1.trans d2).trans d3, ?_⟩
      simp -implicitDefEqProofs [-neG_def, e1, hn0, e2, hlen, e3, hix, hadd, hsl]
    · refine ⟨w0, s2, hw7, d1.trans d2, ?_⟩
      simp -implicitDefEqProofs [-neG_def, e1, hn0, e2, hv]
theorem k12_ask {k : List Nat} {ps : List Pr} {s : Sto} {x : D} {a0 a2 a6 a7 a8 a9 a10 a11 : Option D} (T : Tap 0 s) (c : Case k ps) (hk : k.length ≤ 14) (hp : ps.length ≤ 5) (hsz : k.length * sizeL ps ≤ 16000000) (hk1 : 1 ≤ k.length) :
    ∃ b7 b8 b9 b10 b11 s', turn (nameG 6) l_law_k12_1 x [a0, some (.ob 0), a2, some (.str k), some (.tup (ps.map Pr.d)), some (.lst (strsL (rowsR k ps))), a6, a7, a8, a9, a10, a11] s =
      .nx [a0, some (.ob 0), a2, some (.str k), some (.tup (ps.map Pr.d)), some (.lst (strsL (rowsR k ps))), some x, b7, b8, b9, b10, b11] s' ∧ Tap 0 s' := by
  have hR : (rowsR k ps).length ≤ 100000 := by
    have h1 := rows_pow k ps
    have h2 : (2 : Nat) ^ k.length ≤ 2 ^ 14 := Nat.pow_le_pow_right (by decide) hk
    have : (2 : Nat) ^ 14 = 16384 := by decide
    omega
  have hs2 : sizeL ps ≤ 16000000 := Nat.le_trans (Nat.le_mul_of_pos_left _ (by omega)) hsz
  obtain ⟨week, s1, hw7, d1, ew⟩ := k12_week (a0 := a0) (a2 := a2) (a3 := some (.str k)) (a4 := some (.tup (ps.map Pr.d))) (a6 := some x) (a7 := a7) (a8 := a8) (a9 := a9) (a10 := a10) (a11 := a11) T c (by omega) hR (seqS (parS 8 9 (con (callF 3 m_fewest_exceptions (con (varF 3) (con (varF 4) (con (varF 7) (nil))))) (con (callF 3 m_row_near (con (varF 3) (con (varF 4) (con (varF 7) (nil))))) (nil))))
    (ifS (tst (bin eqG (varF 5) (lstE (nil)))) (ifS (orT (tst (bin isntG (varF 8) (cF .non))) (tst (bin isntG (varF 9) (cF .non)))) (retS (cF (.bl false))) (passS)) (seqS (setS 10 (fnB minG (con (compF (walkF (varF 5)) [11] (nameG 11) (yes) (callF 2 m_law_exceptions (con (varF 11) (con (varF 7) (nil))))) (nil))))
    (ifS (orT (notT (tst (callF 2 m_law_like (con (varF 8) (con (varF 10) (nil)))))) (orT (tst (bin ninG (varF 9) (varF 5))) (tst (bin neG (callF 2 m_law_exceptions (con (varF 9) (con (varF 7) (nil)))) (varF 10))))) (retS (cF (.bl false))) (passS)))))
  obtain ⟨b, hb, ef, er⟩ := fewest_spec (week := week) s1 (case_ps c (by omega)) hw7 hs2
  have hn0 := fun s => eq_nil (s := s) (Nat.le_trans (strs_deps (rowsR k ps)) (show 0 ≤ 59 by decide))
  have hse : (strsL (rowsR k ps)).isEmpty = (rowsR k ps).isEmpty := by unfold strsL; rw [List.isEmpty_map]
  rw [hse] at hn0
  have hturn : turn (nameG 6) l_law_k12_1 x [a0, some (.ob 0), a2, some (.str k), some (.tup (ps.map Pr.d)), some (.lst (strsL (rowsR k ps))), a6, a7, a8, a9, a10, a11] s = l_law_k12_1 [a0, some (.ob 0), a2, some (.str k), some (.tup (ps.map Pr.d)), some (.lst (strsL (rowsR k ps))), some x, a7, a8, a9, a10, a11] s := rfl
  rw [hturn]
  unfold l_law_k12_1
  rw [ew]
  cases b with
  | none =>
    have g := hb.no rfl
    simp only at ef er
    rw [g] at hn0 ⊢
    refine ⟨some (.str week), some .non, some .non, a10, a11, s1, ?_, T.dr d1⟩
    simp -implicitDefEqProofs [-eqG_def, ef, er, hn0]
  | some v =>
    obtain ⟨h1, h2, h3⟩ := hb.so v rfl
    simp only at ef er
    have he : (rowsR k ps).isEmpty = false := by
      cases q : rowsR k ps with
      | nil => rw [q] at h1; cases h1
      | cons a l => rfl
    rw [he] at hn0
    have hv2 : v.2.length ≤ 1000 := by have := ((rows_mem c.kn _).mp h1).len; omega
    have comp : ∀ δ : Sl, δ.length = 12 → δ[7]? = some (some (.str week)) → loopC (nameG 11) yes (callF 2 m_law_exceptions (con (varF 11) (con (varF 7) (nil)))) δ (strsL (rowsR k ps)) [] s1 = .val ((rowsR k ps).map fun r => D.int (excW week r : Nat)) s1 := fun δ hl h7 => by
      unfold strsL
      rw [loopC_map D.str (fun r => D.int (excW week r : Nat)) (rowsR k ps) (fun r hr => ?_) (by omega)]
      have g7 : (δ.set 11 (some (.str r)))[7]? = some (some (.str week)) := by rw [List.getElem?_set_ne (by decide)]; exact h7
      have g11 : (δ.set 11 (some (.str r)))[11]? = some (some (.str r)) := List.getElem?_set_self (by omega)
      have hx := exc_spec (s := s1) (r := r) (week := week) (by have := ((rows_mem c.kn r).mp hr).len; omega) hw7
      refine ⟨δ.set 11 (some (.str r)), rfl, ?_, rfl⟩
      simp -implicitDefEqProofs [g7, g11, hx]
    have hmin : ∀ s, minG s [.lst ((rowsR k ps).map fun r => D.int (excW week r : Nat))] = .val (.int (v.1 : Nat)) s := fun s => min_spec (f := fun r => ((excW week r : Nat) : Int)) ⟨v.2, h1, by rw [h2]⟩ (fun r hr => by have := h3 r hr; omega)
    have hin : ∀ s, ninG s (.str v.2) (.lst (strsL (rowsR k ps))) = .val (.bl false) s := fun s => by rw [nin_strs, decide_eq_true h1]; rfl
    have hx := exc_spec (s := s1) (r := v.2) (week := week) hv2 hw7
    rw [← h2] at hx
    have hlk : m_law_like [.int (v.1 : Int), .int (v.1 : Int)] s1 = .val (.bl true) s1 := like_same 4 (.int (v.1 : Int)) _ _ _ (by simp [okD]) (by simp) (by decide) rfl rfl
    generalize hRS : strsL (rowsR k ps) = RS at *
    generalize ((rowsR k ps).map fun r => D.int (excW week r : Nat)) = LS at *
    refine ⟨some (.str week), some (.int (v.1 : Int)), some (.str v.2), some (.int (v.1 : Int)), a11, s1, ?_, T.dr d1⟩
    simp -implicitDefEqProofs [-eqG_def, ef, er, hn0, wipeD, comp, hmin, hin, hx, hlk]
theorem k12_2 {x : D} {δ : Sl} {s : Sto} (I : Inv 12 δ s) : ∃ δ2 s2, turn (nameG 2) l_law_k12_2 x δ s = .nx δ2 s2 ∧ Inv 12 δ2 s2 := by
  obtain ⟨hl, h1, T⟩ := I
  match δ, hl, h1 with
  | [a0, b1, a2, a3, a4, a5, a6, a7, a8, a9, a10, a11], _, h1 =>
    obtain rfl : b1 = some (.ob 0) := by simpa using h1
    obtain ⟨k, ps, s1, e1, d1, c, hk1, hk9, hp5, hc5⟩ := case_spec5 (days := 9) (most := 5) T (by decide) (by decide) (by decide) (by decide)
    have T1 := T.dr d1
    have hsz := size_ok (k := k) (ps := ps) (by omega) (by omega) hc5
    have hrw := fun s => rows_spec (s := s) c (show k.length ≤ 14 by omega) (by omega)
    obtain ⟨δ', s', e2, ⟨b6, b7, b8, b9, b10, b11, rfl⟩, T2⟩ := loop_inv (g := nameG 6) (body := l_law_k12_1) (xs := upI 0 3)
      (fun _ δ s => (∃ b6 b7 b8 b9 b10 b11, δ = [a0, some (.ob 0), some x, some (.str k), some (.tup (ps.map Pr.d)), some (.lst (strsL (rowsR k ps))), b6, b7, b8, b9, b10, b11]) ∧ Tap 0 s)
      (fun i y δ s _ I => by
        obtain ⟨⟨b6, b7, b8, b9, b10, b11, rfl⟩, T⟩ := I
        obtain ⟨c7, c8, c9, c10, c11, s', e, T'⟩ := k12_ask (x := y) (a0 := a0) (a2 := some x) (a6 := b6) (a7 := b7) (a8 := b8) (a9 := b9) (a10 := b10) (a11 := b11) T c (by omega) (by omega) hsz hk1
        exact ⟨_, _, e, ⟨_, _, _, _, _, _, rfl⟩, T'⟩)
      (δ := [a0, some (.ob 0), some x, some (.str k), some (.tup (ps.map Pr.d)), some (.lst (strsL (rowsR k ps))), a6, a7, a8, a9, a10, a11]) (s := s1) ⟨⟨_, _, _, _, _, _, rfl⟩, T1⟩
    have h3 : sm 3 = true := by decide
    have e2' : loopS (nameG 6) l_law_k12_1 (upI 0 (3 : Int).toNat) [a0, some (.ob 0), some x, some (.str k), some (.tup (ps.map Pr.d)), some (.lst (strsL (rowsR k ps))), a6, a7, a8, a9, a10, a11] s1 = .nx [a0, some (.ob 0), some x, some (.str k), some (.tup (ps.map Pr.d)), some (.lst (strsL (rowsR k ps))), b6, b7, b8, b9, b10, b11] s' := e2
    refine ⟨[a0, some (.ob 0), some x, some (.str k), some (.tup (ps.map Pr.d)), some (.lst (strsL (rowsR k ps))), b6, b7, b8, b9, b10, b11], s', ?_, ⟨rfl, rfl, T2⟩⟩
    simp -implicitDefEqProofs [turn, l_law_k12_2, e1, hrw, h3, e2]
theorem few_one {k week : List Nat} (s : Sto) (hk : Kn k) (hl : k.length ≤ 1000) (hw : week.length = 7) {n : Nat} (h1 : rowsR k [] = [k]) (h2 : excW week k = n) : m_fewest_exceptions [.str k, .tup [], .str week] s = .val (.int (n : Nat)) s := by
  obtain ⟨b, hb, ef, _⟩ := fewest_spec (k := k) (ps := []) (week := week) s ⟨hk, hl, by simp, fun p hp => nomatch hp⟩ hw (by decide)
  cases b with
  | none => have := hb.no rfl; rw [h1] at this; cases this
  | some v =>
    obtain ⟨q1, q2, _⟩ := hb.so v rfl
    rw [h1, List.mem_singleton] at q1
    rw [q1, h2] at q2
    simp only [q2] at ef
    exact ef
theorem law_k12_true (ns : List Int) (hn : ns.length ≤ 63) : ∃ s, m_law_k12 [.scr ns] [] = .val (.bl true) s := by
  unfold m_law_k12 b_law_k12
  refine law_turns (m := 4) (n := 12) rfl (by decide) (by decide) (fun x δ s h => k12_2 h) (fun δ s h => ⟨s, ?_⟩) ns
  have w1 := few_one (k := [119, 119, 119, 119, 119, 102, 102]) (week := [119, 119, 119, 119, 119, 102, 102]) (n := 0) s (by unfold Kn; decide) (by decide) rfl (by decide +kernel) (by decide +kernel)
  have w2 := few_one (k := List.replicate 31 102) (week := List.replicate 7 119) (n := 31) s (fun c hc => by have := List.eq_of_mem_replicate hc; omega) (by decide) (by decide) (by decide +kernel) (by decide +kernel)
  have m1 : mulG s (.str [102]) (.int 31) = .val (.str (List.replicate 31 102)) s := rfl
  have m2 : mulG s (.str [119]) (.int 7) = .val (.str (List.replicate 7 119)) s := rfl
  generalize List.replicate 31 102 = z1 at *
  generalize List.replicate 7 119 = z2 at *
  simp -implicitDefEqProofs [w1, w2, m1, m2]
end Fl
set_option Elab.async false
set_option linter.all false
set_option maxRecDepth 100000
set_option maxHeartbeats 2000000
namespace Fl
open L2 PySem
/-! law k13: weeks and columns as plain mathematics -/
def sumN (f : Nat → Nat) : Nat → Nat
  | 0 => 0
  | q + 1 => sumN f q + f q
theorem sumN_le {f g : Nat → Nat} : ∀ {q : Nat}, (∀ p, p < q → f p ≤ g p) → sumN f q ≤ sumN g q
  | 0, _ => Nat.le_refl _
  | q + 1, h => Nat.add_le_add (sumN_le fun p hp => h p (by omega)) (h q (by omega))
theorem sumN_eq {f g : Nat → Nat} : ∀ {q : Nat}, (∀ p, p < q → f p ≤ g p) → (sumN f q = sumN g q ↔ ∀ p, p < q → f p = g p)
  | 0, _ => ⟨fun _ p hp => absurd hp (by omega), fun _ => rfl⟩
  | q + 1, h => by
    have ih := sumN_eq (f := f) (g := g) (q := q) fun p hp => h p (by omega)
    have l1 := sumN_le (f := f) (g := g) (q := q) fun p hp => h p (by omega)
    have l2 := h q (by omega)
    show sumN f q + f q = sumN g q + g q ↔ _
    constructor
    · intro e p hp
      by_cases z : p = q
      · subst z; omega
      · exact ih.mp (by omega) p (by omega)
    · intro a
      rw [ih.mpr fun p hp => a p (by omega), a q (by omega)]
theorem sumN_congr {f g : Nat → Nat} {q : Nat} (h : ∀ p, p < q → f p = g p) : sumN f q = sumN g q := by
  induction q with
  | zero => rfl
  | succ q ih =>
    show sumN f q + f q = sumN g q + g q
    rw [ih fun p hp => h p (by omega), h q (by omega)]
theorem sumN_add1 {f g : Nat → Nat} {q a : Nat} {c : Nat} (ha : a < q) (h : ∀ p, p < q → p ≠ a → f p = g p) (h2 : f a = g a + c) : sumN f q = sumN g q + c := by
  induction q with
  | zero => omega
  | succ q ih =>
    show sumN f q + f q = sumN g q + g q + c
    by_cases z : a = q
    · subst z
      rw [sumN_congr fun p hp => h p (by omega) (by omega)]; omega
    · rw [ih (by omega) fun p hp hne => h p (by omega) hne, h q (by omega) (fun e => z e.symm)]; omega
/-- the letters at the places p, p + 7, .. -/
def colP (r : List Nat) (p : Nat) : List Nat := ((List.range r.length).filter fun i => i % 7 == p).map fun i => r.getD i 0
theorem col_snoc {r : List Nat} {x p : Nat} : colP (r ++ [x]) p = colP r p ++ if r.length % 7 = p then [x] else [] := by
  unfold colP
  rw [List.length_append, List.length_singleton, List.range_succ, List.filter_append, List.map_append]
  congr 1
  · refine List.map_congr_left fun i hi => ?_
    have hl := List.mem_range.mp (List.mem_filter.mp hi).1
    simp only [List.getD]
    rw [List.getElem?_append_left hl]
  · by_cases h : r.length % 7 = p
    · rw [if_pos h]
      simp [h]
    · rw [if_neg h]
      simp [h]
def costP (r : List Nat) (p x : Nat) : Nat := (colP r p).length - (colP r p).count x
theorem exc_cols {week : List Nat} (hw : week.length = 7) : ∀ (n : Nat) (r : List Nat), r.length = n → excW week r = sumN (fun p => costP r p (week.getD p 0)) 7
  | 0, r, h => by
    obtain rfl : r = [] := List.length_eq_zero_iff.mp h
    rfl
  | n + 1, r, h => by
    obtain ⟨r0, x, rfl⟩ : ∃ r0 x, r = r0 ++ [x] := by
      rcases List.eq_nil_or_concat r with e | ⟨r0, x, e⟩
      · rw [e] at h; simp at h
      · exact ⟨r0, x, by rw [e]; simp⟩
    have h0 : r0.length = n := by simpa using h
    have hm : r0.length % 7 < 7 := Nat.mod_lt _ (by decide)
    rw [exc_snoc, exc_cols hw n r0 h0]
    refine (sumN_add1 hm (fun p hp hne => ?_) ?_).symm
    · unfold costP
      rw [col_snoc, if_neg (fun e => hne e.symm), List.append_nil]
    · unfold costP costW
      rw [col_snoc, if_pos rfl, List.length_append, List.count_append, List.length_singleton]
      have hg : week[r0.length % 7]? = some (week.getD (r0.length % 7) 0) := by
        rw [List.getD_eq_getElem?_getD, List.getElem?_eq_getElem (by omega)]; rfl
      rw [hg]
      have hc := List.count_le_length (a := week.getD (r0.length % 7) 0) (l := colP r0 (r0.length % 7))
      by_cases q : week.getD (r0.length % 7) 0 = x
      · rw [if_pos (by rw [q]), q, List.count_singleton_self]; rw [q] at hc; omega
      · rw [if_neg (fun e => q (Option.some.inj e)), List.count_singleton]
        rw [if_neg (by simpa using fun e => q e.symm)]; omega
theorem col_row {r : List Nat} (h : Row r) (p : Nat) : ∀ x ∈ colP r p, x = 119 ∨ x = 102 := fun x hx => by
  obtain ⟨i, hi, rfl⟩ := List.mem_map.mp hx
  have hl := List.mem_range.mp (List.mem_filter.mp hi).1
  have : r.getD i 0 = r[i] := by rw [List.getD_eq_getElem?_getD, List.getElem?_eq_getElem hl]; rfl
  rw [this]
  exact h _ (List.getElem_mem hl)
theorem two_count : ∀ {l : List Nat}, (∀ x ∈ l, x = 119 ∨ x = 102) → l.count 102 + l.count 119 = l.length
  | [], _ => rfl
  | a :: l, h => by
    have ih := two_count (l := l) fun x hx => h x (List.mem_cons_of_mem _ hx)
    rw [List.count_cons, List.count_cons, List.length_cons]
    rcases h a (List.mem_cons_self ..) with rfl | rfl <;> simp <;> omega
def minP (r : List Nat) (p : Nat) : Nat := min ((colP r p).count 102) ((colP r p).length - (colP r p).count 102)
def goodP (r : List Nat) (p : Nat) : List Nat := [102, 119].filter fun x => decide ((colP r p).length ≤ (colP r p).count x * 2)
def weeksF (r : List Nat) : Nat → List (List Nat)
  | 0 => [[]]
  | p + 1 => (weeksF r p).flatMap fun w => (goodP r p).map fun x => w ++ [x]
def totalF (r : List Nat) : Nat := sumN (minP r) 7
theorem min_le {r : List Nat} (h : Row r) {p x : Nat} (hx : x = 119 ∨ x = 102) : minP r p ≤ costP r p x ∧ (minP r p = costP r p x ↔ x ∈ goodP r p) := by
  have hc := two_count (col_row h p)
  unfold minP costP goodP
  rw [List.mem_filter, decide_eq_true_eq]
  rcases hx with rfl | rfl
  · refine ⟨by omega, ?_⟩
    simp only [List.mem_cons, List.not_mem_nil, or_false, or_true, true_and]
    omega
  · refine ⟨by omega, ?_⟩
    simp only [List.mem_cons, List.not_mem_nil, or_false, true_or, true_and]
    omega
theorem weeksF_mem {r : List Nat} : ∀ {q : Nat} {w : List Nat}, w ∈ weeksF r q ↔ w.length = q ∧ ∀ p, p < q → w.getD p 0 ∈ goodP r p
  | 0, w => by
    rw [weeksF, List.mem_singleton]
    constructor
    · rintro rfl; exact ⟨rfl, fun p hp => absurd hp (by omega)⟩
    · rintro ⟨h, _⟩; exact List.length_eq_zero_iff.mp h
  | q + 1, w => by
    have ih := fun w => weeksF_mem (r := r) (q := q) (w := w)
    rw [weeksF, List.mem_flatMap]
    constructor
    · rintro ⟨w0, h0, h1⟩
      obtain ⟨x, hx, rfl⟩ := List.mem_map.mp h1
      obtain ⟨l0, g0⟩ := (ih w0).mp h0
      refine ⟨by simp [l0], fun p hp => ?_⟩
      rw [List.getD_eq_getElem?_getD]
      by_cases z : p < q
      · rw [List.getElem?_append_left (by omega), ← List.getD_eq_getElem?_getD]; exact g0 p z
      · obtain rfl : p = q := by omega
        rw [List.getElem?_append_right (by omega), l0, Nat.sub_self]; exact hx
    · rintro ⟨hl, hg⟩
      obtain ⟨w0, x, rfl⟩ : ∃ w0 x, w = w0 ++ [x] := by
        rcases List.eq_nil_or_concat w with e | ⟨r0, x, e⟩
        · rw [e] at hl; simp at hl
        · exact ⟨r0, x, by rw [e]; simp⟩
      have l0 : w0.length = q := by simpa using hl
      refine ⟨w0, (ih w0).mpr ⟨l0, fun p hp => ?_⟩, List.mem_map.mpr ⟨x, ?_, rfl⟩⟩
      · have := hg p (by omega)
        rw [List.getD_eq_getElem?_getD, List.getElem?_append_left (by omega), ← List.getD_eq_getElem?_getD] at this
        exact this
      · have := hg q (by omega)
        rw [List.getD_eq_getElem?_getD, List.getElem?_append_right (by omega), l0, Nat.sub_self] at this
        exact this
theorem good_wf {r : List Nat} {p x : Nat} (h : x ∈ goodP r p) : x = 119 ∨ x = 102 := by
  have := (List.mem_filter.mp h).1
  simp at this; omega
theorem row_getD {w : List Nat} (hw : Row w) {p : Nat} (hp : p < w.length) : w.getD p 0 = 119 ∨ w.getD p 0 = 102 := by
  have : w.getD p 0 = w[p] := by rw [List.getD_eq_getElem?_getD, List.getElem?_eq_getElem hp]; rfl
  rw [this]; exact hw _ (List.getElem_mem hp)
theorem few_le {r w : List Nat} (h : Row r) (hw : Row w) (hl : w.length = 7) : totalF r ≤ excW w r ∧ (totalF r = excW w r ↔ w ∈ weeksF r 7) := by
  rw [exc_cols hl _ r rfl, weeksF_mem]
  have k : ∀ p, p < 7 → minP r p ≤ costP r p (w.getD p 0) := fun p hp => (min_le h (row_getD hw (by omega))).1
  refine ⟨sumN_le k, ?_⟩
  unfold totalF
  rw [sumN_eq k]
  constructor
  · intro a
    exact ⟨hl, fun p hp => (min_le h (row_getD hw (by omega))).2.mp (a p hp)⟩
  · rintro ⟨_, a⟩ p hp
    exact (min_le h (row_getD hw (by omega))).2.mpr (a p hp)
theorem weeks_row {r w : List Nat} {q : Nat} (h : w ∈ weeksF r q) : Row w := fun x hx => by
  obtain ⟨i, hi⟩ := List.getElem?_of_mem hx
  obtain ⟨hl, hg⟩ := weeksF_mem.mp h
  have hil := (List.getElem?_eq_some_iff.mp hi).1
  have := hg i (by omega)
  rw [List.getD_eq_getElem?_getD, hi] at this
  exact good_wf this
theorem weeks_ne (r : List Nat) (h : Row r) : ∃ w, w ∈ weeksF r 7 := by
  have one : ∀ p, ∃ x, x ∈ goodP r p := fun p => by
    have hc := two_count (col_row h p)
    by_cases z : (colP r p).length ≤ (colP r p).count 102 * 2
    · exact ⟨102, List.mem_filter.mpr ⟨by simp, by simpa using z⟩⟩
    · exact ⟨119, List.mem_filter.mpr ⟨by simp, by simp; omega⟩⟩
  have : ∀ q, ∃ w, w ∈ weeksF r q := fun q => by
    induction q with
    | zero => exact ⟨[], by simp [weeksF]⟩
    | succ q ih =>
      obtain ⟨w, hw⟩ := ih
      obtain ⟨x, hx⟩ := one q
      exact ⟨w ++ [x], List.mem_flatMap.mpr ⟨w, hw, List.mem_map.mpr ⟨x, hx, rfl⟩⟩⟩
  exact this 7
/-! the fewest exceptions of all rows -/
def minO : List Nat → Option Nat
  | [] => none
  | a :: l => match minO l with
    | none => some a
    | some m => some (min a m)
theorem minO_none {l : List Nat} : minO l = none ↔ l = [] := by
  cases l with
  | nil => simp [minO]
  | cons a l =>
    simp only [minO]
    cases minO l <;> simp
theorem minO_some : ∀ {l : List Nat} {m : Nat}, minO l = some m ↔ m ∈ l ∧ ∀ x ∈ l, m ≤ x
  | [], m => by simp [minO]
  | a :: l, m => by
    have ih := fun m => minO_some (l := l) (m := m)
    rw [minO]
    cases h : minO l with
    | none =>
      have := minO_none.mp h
      subst this
      simp; constructor
      · rintro rfl; exact ⟨rfl, Nat.le_refl _⟩
      · rintro ⟨rfl, _⟩; rfl
    | some m0 =>
      obtain ⟨h1, h2⟩ := (ih m0).mp h
      simp only [Option.some.injEq, List.mem_cons, forall_eq_or_imp]
      constructor
      · rintro rfl
        refine ⟨?_, by omega, fun x hx => by have := h2 x hx; omega⟩
        by_cases z : a ≤ m0
        · left; omega
        · right; rw [Nat.min_eq_right (by omega)]; exact h1
      · rintro ⟨h3, h4, h5⟩
        have h6 := h5 m0 h1
        rcases h3 with rfl | h3
        · omega
        · have := h2 m h3; omega
def fewN (k : List Nat) (ps : List Pr) (w : List Nat) : Option Nat := minO ((rowsR k ps).map (excW w))
theorem NearOk.few {k : List Nat} {ps : List Pr} {w : List Nat} {b : Option (Nat × List Nat)} (h : NearOk k ps w b) : b.map (·.1) = fewN k ps w := by
  unfold fewN
  cases b with
  | none => rw [h.no rfl]; rfl
  | some v =>
    obtain ⟨h1, h2, h3⟩ := h.so v rfl
    refine (minO_some.mpr ⟨List.mem_map.mpr ⟨v.2, h1, h2.symm⟩, fun x hx => ?_⟩).symm
    obtain ⟨r, hr, rfl⟩ := List.mem_map.mp hx
    exact h3 r hr
def oD : Option Nat → D
  | none => .non
  | some n => .int (n : Int)
theorem few_fun {k : List Nat} {ps : List Pr} {week : List Nat} (s : Sto) (c : PsOk k ps) (hwk : week.length = 7) (hsz : sizeL ps ≤ 16000000) : m_fewest_exceptions [.str k, .tup (ps.map Pr.d), .str week] s = .val (oD (fewN k ps week)) s := by
  obtain ⟨b, hb, ef, _⟩ := fewest_spec s c hwk hsz
  rw [ef, ← hb.few]
  cases b <;> rfl
/-! best weeks -/
def stepB (f : List Nat → Option Nat) (st : Nat × List (List Nat)) (w : List Nat) : Nat × List (List Nat) := match f w with
  | none => st
  | some n => if n < st.1 then (n, [w]) else if n = st.1 then (st.1, st.2 ++ [w]) else st
theorem best_fold (f : List Nat → Option Nat) : ∀ (L : List (List Nat)) (st : Nat × List (List Nat)), (L.foldl (stepB f) st).1 ≤ st.1 ∧ (∀ w ∈ L, ∀ n, f w = some n → (L.foldl (stepB f) st).1 ≤ n) ∧
    ((L.foldl (stepB f) st).1 = st.1 ∨ ∃ w ∈ L, f w = some (L.foldl (stepB f) st).1) ∧
    (L.foldl (stepB f) st).2 = (if (L.foldl (stepB f) st).1 = st.1 then st.2 else []) ++ L.filter fun w => f w == some (L.foldl (stepB f) st).1
  | [], st => ⟨Nat.le_refl _, fun w hw => (nomatch hw), .inl rfl, by simp⟩
  | w :: L, st => by
    obtain ⟨i1, i2, i3, i4⟩ := best_fold f L (stepB f st w)
    rw [List.foldl_cons]
    have hle : (stepB f st w).1 ≤ st.1 := by
      unfold stepB
      cases f w with
      | none => exact Nat.le_refl _
      | some n => simp only; split <;> (try split) <;> simp <;> omega
    generalize hR : L.foldl (stepB f) (stepB f st w) = R at *
    cases hf : f w with
    | none =>
      have hs : stepB f st w = st := by unfold stepB; rw [hf]
      rw [hs] at i1 i3 i4
      refine ⟨i1, fun v hv n hn => ?_, i3.imp id fun ⟨v, hv, e⟩ => ⟨v, List.mem_cons_of_mem _ hv, e⟩, ?_⟩
      · rcases List.mem_cons.mp hv with rfl | hv
        · rw [hf] at hn; cases hn
        · exact i2 v hv n hn
      · rw [i4, List.filter_cons, hf]; simp
    | some n =>
      have hs : stepB f st w = if n < st.1 then (n, [w]) else if n = st.1 then (st.1, st.2 ++ [w]) else st := by unfold stepB; rw [hf]
      by_cases c1 : n < st.1
      · rw [if_pos c1] at hs
        rw [hs] at i1 i3 i4
        simp only at i1 i3 i4
        refine ⟨by omega, fun v hv m hm => ?_, ?_, ?_⟩
        · rcases List.mem_cons.mp hv with rfl | hv
          · rw [hf] at hm; cases hm; exact i1
          · exact i2 v hv m hm
        · right
          rcases i3 with e | ⟨v, hv, e⟩
          · exact ⟨w, List.mem_cons_self .., by rw [hf, e]⟩
          · exact ⟨v, List.mem_cons_of_mem _ hv, e⟩
        · rw [i4, List.filter_cons, hf, if_neg (show ¬ R.1 = st.1 by omega)]
          by_cases q : R.1 = n
          · simp [q]
          · have q' : ¬ n = R.1 := fun e => q e.symm
            simp [q, q']
      · rw [if_neg c1] at hs
        by_cases c2 : n = st.1
        · rw [if_pos c2] at hs
          rw [hs] at i1 i3 i4
          simp only at i1 i3 i4
          refine ⟨i1, fun v hv m hm => ?_, i3.imp id fun ⟨v, hv, e⟩ => ⟨v, List.mem_cons_of_mem _ hv, e⟩, ?_⟩
          · rcases List.mem_cons.mp hv with rfl | hv
            · rw [hf] at hm; cases hm; omega
            · exact i2 v hv m hm
          · rw [i4, List.filter_cons, hf]
            by_cases q : R.1 = st.1
            · simp [q, c2]
            · have q' : ¬ st.1 = R.1 := fun e => q e.symm
              simp [q, c2, q']
        · rw [if_neg c2] at hs
          rw [hs] at i1 i3 i4
          refine ⟨i1, fun v hv m hm => ?_, i3.imp id fun ⟨v, hv, e⟩ => ⟨v, List.mem_cons_of_mem _ hv, e⟩, ?_⟩
          · rcases List.mem_cons.mp hv with rfl | hv
            · rw [hf] at hm; cases hm; omega
            · exact i2 v hv m hm
          · rw [i4, List.filter_cons, hf]
            have q : ¬ n = R.1 := by omega
            simp [q]
def weeksL : List (List Nat) := allR (List.replicate 7 63)
def bestW (k : List Nat) (ps : List Pr) : List (List Nat) := (weeksL.foldl (stepB (fewN k ps)) (k.length, [])).2
theorem weeksL_mem (w : List Nat) : w ∈ weeksL ↔ w.length = 7 ∧ Row w := by
  have := allR_mem (k := List.replicate 7 63) 7 (by simp) (fun c hc => by have := List.eq_of_mem_replicate hc; omega) w
  rw [List.take_of_length_le (by simp)] at this
  unfold weeksL
  rw [this]
  constructor
  · rintro ⟨a, b, _⟩; exact ⟨a, b⟩
  · rintro ⟨a, b⟩
    refine ⟨a, b, fun d hd => .inl ?_⟩
    rw [List.getElem?_replicate, if_pos hd]
theorem weeksL_pw : weeksL.Pairwise (· < ·) := by
  unfold weeksL; rw [cmp_all]; exact cmp_pw
theorem exc_le {week r : List Nat} : excW week r ≤ r.length := by
  unfold excW
  refine Nat.le_trans (List.length_filter_le _ _) (by simp)
theorem bestW_none {k : List Nat} {ps : List Pr} (h : rowsR k ps = []) : bestW k ps = [] := by
  have hf : ∀ w, fewN k ps w = none := fun w => by unfold fewN; rw [h]; rfl
  obtain ⟨_, _, _, i4⟩ := best_fold (fewN k ps) weeksL (k.length, [])
  unfold bestW
  rw [i4, List.append_eq_nil_iff]
  refine ⟨by split <;> rfl, List.filter_eq_nil_iff.mpr fun w hw => by rw [hf]; simp⟩
/-- the least of the rows' numbers -/
structure LeastT (k : List Nat) (ps : List Pr) (m : Nat) : Prop where
  at_ : ∃ r ∈ rowsR k ps, totalF r = m
  le : ∀ r ∈ rowsR k ps, m ≤ totalF r
theorem bestW_pw (k : List Nat) (ps : List Pr) : (bestW k ps).Pairwise (· < ·) := by
  obtain ⟨_, _, _, i4⟩ := best_fold (fewN k ps) weeksL (k.length, [])
  unfold bestW
  rw [i4]
  have : (if (weeksL.foldl (stepB (fewN k ps)) (k.length, [])).1 = k.length then ([] : List (List Nat)) else []) = [] := by split <;> rfl
  simp only [this, List.nil_append]
  exact List.Pairwise.filter _ weeksL_pw
theorem few_least {k : List Nat} {ps : List Pr} {m : Nat} (hk : Kn k) (h : LeastT k ps m) {w : List Nat} (hw : w ∈ weeksL) : (∃ n, fewN k ps w = some n ∧ m ≤ n) ∧ (fewN k ps w = some m ↔ ∃ r ∈ rowsR k ps, totalF r = m ∧ w ∈ weeksF r 7) := by
  obtain ⟨hl, hr⟩ := (weeksL_mem w).mp hw
  have hrow : ∀ r ∈ rowsR k ps, Row r := fun r hr => ((rows_mem hk r).mp hr).row
  constructor
  · cases e : fewN k ps w with
    | none =>
      have := minO_none.mp e
      rw [List.map_eq_nil_iff] at this
      obtain ⟨r, hr, _⟩ := h.at_
      rw [this] at hr; cases hr
    | some n =>
      refine ⟨n, rfl, ?_⟩
      obtain ⟨h1, _⟩ := minO_some.mp e
      obtain ⟨r, hr', rfl⟩ := List.mem_map.mp h1
      have := h.le r hr'
      have := (few_le (hrow r hr') hr hl).1
      omega
  · unfold fewN
    rw [minO_some]
    constructor
    · rintro ⟨h1, _⟩
      obtain ⟨r, hr', e⟩ := List.mem_map.mp h1
      have q1 := h.le r hr'
      have q2 := few_le (hrow r hr') hr hl
      exact ⟨r, hr', by omega, q2.2.mp (by omega)⟩
    · rintro ⟨r, hr', e1, e2⟩
      have q2 := few_le (hrow r hr') hr hl
      refine ⟨List.mem_map.mpr ⟨r, hr', by rw [← q2.2.mpr e2, e1]⟩, fun x hx => ?_⟩
      obtain ⟨r', hr'', rfl⟩ := List.mem_map.mp hx
      have := h.le r' hr''
      have := (few_le (hrow r' hr'') hr hl).1
      omega
theorem bestW_mem {k : List Nat} {ps : List Pr} {m : Nat} (hk : Kn k) (h : LeastT k ps m) (w : List Nat) : w ∈ bestW k ps ↔ ∃ r ∈ rowsR k ps, totalF r = m ∧ w ∈ weeksF r 7 := by
  obtain ⟨i1, i2, i3, i4⟩ := best_fold (fewN k ps) weeksL (k.length, [])
  have hb : (weeksL.foldl (stepB (fewN k ps)) (k.length, [])).1 = m := by
    obtain ⟨r, hr, e⟩ := h.at_
    have f := (rows_mem hk r).mp hr
    obtain ⟨w0, hw0⟩ := weeks_ne r f.row
    have hwl : w0 ∈ weeksL := (weeksL_mem w0).mpr ⟨(weeksF_mem.mp hw0).1, weeks_row hw0⟩
    have e0 := (few_least hk h hwl).2.mpr ⟨r, hr, e, hw0⟩
    have u := i2 w0 hwl m e0
    rcases i3 with e3 | ⟨v, hv, e3⟩
    · simp only at e3
      have hx : excW w0 r ≤ r.length := exc_le
      have q := (few_le f.row (weeks_row hw0) (weeksF_mem.mp hw0).1).2.mpr hw0
      have := f.len
      omega
    · obtain ⟨n, hn, hle⟩ := (few_least hk h hv).1
      rw [e3] at hn
      cases hn
      omega
  unfold bestW
  rw [i4, hb]
  have : (if m = k.length then ([] : List (List Nat)) else []) = [] := by split <;> rfl
  simp only [this, List.nil_append]
  rw [List.mem_filter]
  constructor
  · rintro ⟨hw, e⟩
    exact (few_least hk h hw).2.mp (beq_iff_eq.mp e)
  · rintro ⟨r, hr, e1, e2⟩
    have hw : w ∈ weeksL := (weeksL_mem w).mpr ⟨(weeksF_mem.mp e2).1, weeks_row e2⟩
    exact ⟨hw, beq_iff_eq.mpr ((few_least hk h hw).2.mpr ⟨r, hr, e1, e2⟩)⟩
end Fl
set_option Elab.async false
set_option linter.all false
set_option maxRecDepth 100000
set_option maxHeartbeats 2000000
namespace Fl
open L2 PySem
/-! law k13: the walks -/
theorem strsL_app (a b : List (List Nat)) : strsL (a ++ b) = strsL a ++ strsL b := by simp [strsL]
theorem strsL_len (a : List (List Nat)) : (strsL a).length = a.length := by simp [strsL]
theorem loop2_cons {g : GF} {t : BF} {fi1 : AF} {vs1 : List Nat} {g1 : GF} {t1 : BF} {e : EF} {δ : Sl} {x : D} {xs acc : List D} {s : Sto} : loop2 g t fi1 vs1 g1 t1 e δ (x :: xs) acc s = (noX (g x δ s)).bind fun δ1 s1 => (quiet (t δ1 s1)).bind fun b s2 =>
    if b = true then (quiet (fi1 δ1 s2)).bind fun ys s3 => (loopQ flat g1 t1 e (wipeD δ1 vs1) ys acc s3).bind fun acc' s4 => loop2 g t fi1 vs1 g1 t1 e δ xs acc' s4
    else loop2 g t fi1 vs1 g1 t1 e δ xs acc s2 := rfl
theorem aw_loop {s : Sto} {a0 a1 : Option D} : ∀ (L acc : List (List Nat)), (∀ r ∈ L, r.length ≤ 1000) → acc.length + 2 * L.length ≤ 100000 →
    loop2 (nameG 2) yes (walkF (cF (.str [102, 119]))) [3] (nameG 3) yes (bin addG (varF 2) (varF 3)) [a0, a1, none, none] (strsL L) (strsL acc) s = .val (strsL (acc ++ growR L 63)) s
  | [], acc, _, _ => by simp [strsL, loop2, growR]
  | r :: L, acc, h, hl => by
    simp only [List.length_cons] at hl
    have hr := h r (List.mem_cons_self ..)
    have a1' : ∀ x : Nat, addG s (.str r) (.str [x]) = .val (.str (r ++ [x])) s := fun x => addG_str (by simp; omega)
    have ih := aw_loop (s := s) (a0 := a0) (a1 := a1) L (acc ++ [r ++ [102], r ++ [119]]) (fun z hz => h z (List.mem_cons_of_mem _ hz)) (by simp; omega)
    have hg : growR (r :: L) 63 = [r ++ [102], r ++ [119]] ++ growR L 63 := rfl
    have hl1 : (strsL acc).length < 16000000 := by rw [strsL_len]; omega
    have hl2 : (strsL acc ++ [D.str (r ++ [102])]).length < 16000000 := by simp [strsL]; omega
    rw [hg, ← List.append_assoc, ← ih]
    have e2 : strsL (acc ++ [r ++ [102], r ++ [119]]) = strsL acc ++ [D.str (r ++ [102])] ++ [D.str (r ++ [119])] := by simp [strsL]
    rw [e2]
    show loop2 _ _ _ _ _ _ _ _ (.str r :: strsL L) _ _ = _
    generalize strsL acc = A at hl1 hl2 ⊢
    generalize strsL L = LL
    rw [loop2_cons]
    have q1 : loopQ flat (nameG 3) yes (bin addG (varF 2) (varF 3)) (wipeD [a0, a1, some (.str r), none] [3]) [.str [102], .str [119]] A s = .val (A ++ [D.str (r ++ [102])] ++ [D.str (r ++ [119])]) s := by
      simp only [List.length_append, List.length_singleton] at hl2
      simp -implicitDefEqProofs [loopQ, wipeD, yes, a1', hl1, hl2]
    simp -implicitDefEqProofs [yes, q1]
theorem all_weeks_spec (s : Sto) : m_all_weeks [] s = .val (.lst (strsL weeksL)) s := by
  obtain ⟨K, hK, hkn, hkl, hget⟩ : ∃ K, K = List.replicate 7 63 ∧ Kn K ∧ K.length = 7 ∧ ∀ i, i < 7 → K[i]? = some 63 := ⟨_, rfl, fun c hc => by have := List.eq_of_mem_replicate hc; omega, by simp, fun i hi => by rw [List.getElem?_replicate, if_pos hi]⟩
  have hrl : ∀ i, i ≤ 7 → ∀ r ∈ allR (K.take i), r.length = i := fun i hi r hr => ((allR_mem i (by omega) hkn r).mp hr).1
  have hlen : ∀ i, i ≤ 7 → (allR (K.take i)).length ≤ 128 := fun i hi => Nat.le_trans (allR_len _ i) (Nat.pow_le_pow_right (by decide) hi)
  obtain ⟨δ1, s1, e1, ⟨b1, rfl⟩, rfl⟩ := loop_inv (g := nameG 1) (body := l_all_weeks_1) (xs := upI 0 7)
    (fun i δ s' => (∃ b1, δ = [some (.lst (strsL (allR (K.take i)))), b1, none, none]) ∧ s = s')
    (fun i x δ s' hx I => by
      obtain ⟨⟨b1, rfl⟩, rfl⟩ := I
      obtain ⟨rfl, hi⟩ := upI_get hx
      have hl := hlen i (by omega)
      have e := aw_loop (s := s) (a0 := some (.lst (strsL (allR (K.take i))))) (a1 := some (.int (0 + (i : Int)))) (allR (K.take i)) [] (fun r hr => by rw [hrl i (by omega) r hr]; omega) (by rw [List.length_nil]; omega)
      rw [List.nil_append, ← allR_snoc, ← take_snoc (hget i hi)] at e
      refine ⟨[some (.lst (strsL (allR (K.take (i + 1))))), some (.int (0 + (i : Int))), none, none], s, ?_, ⟨_, rfl⟩, rfl⟩
      generalize strsL (allR (K.take i)) = A at e ⊢
      generalize strsL (allR (K.take (i + 1))) = B at e ⊢
      have hn : strsL [] = [] := rfl
      rw [hn] at e
      generalize (0 + (i : Int)) = x at e ⊢
      simp -implicitDefEqProofs [turn, l_all_weeks_1, comp2F, wipeD, e])
    (δ := [some (.lst [.str []]), none, none, none]) (s := s) ⟨⟨_, rfl⟩, rfl⟩
  rw [upI_len, List.take_of_length_le (by omega), hK] at e1
  have hs : sm 7 = true := by decide
  unfold weeksL
  generalize strsL (allR (List.replicate 7 63)) = A at e1 ⊢
  simp -implicitDefEqProofs [m_all_weeks, fnF, b_all_weeks, N_all_weeks, startD, hs, e1]
theorem bw_turn {k : List Nat} {ps : List Pr} {w : List Nat} {b j : Nat} {fd : List (List Nat)} {S : Sto} {a4 a5 : Option D} (c : PsOk k ps) (hw : w.length = 7) (hsz : sizeL ps ≤ 16000000) (hj : S[j]? = some (.lst (strsL fd))) (hf : fd.length ≤ 1000) :
    ∃ j' ex b5, turn (nameG 4) l_best_weeks_1 (.str w) [some (.str k), some (.tup (ps.map Pr.d)), some (.int (b : Int)), some (.ob j), a4, a5] S =
      .nx [some (.str k), some (.tup (ps.map Pr.d)), some (.int ((stepB (fewN k ps) (b, fd) w).1 : Int)), some (.ob j'), some (.str w), b5] ((S ++ ex).set j' (.lst (strsL (stepB (fewN k ps) (b, fd) w).2))) ∧ (j' = j ∨ S.length ≤ j') ∧ j' < (S ++ ex).length := by
  have hjl := (List.getElem?_eq_some_iff.mp hj).1
  have ef := fun s => few_fun (week := w) s c hw hsz
  unfold stepB
  cases hn : fewN k ps w with
  | none =>
    rw [hn] at ef
    simp only [oD] at ef
    refine ⟨j, [], some .non, ?_, .inl rfl, by simpa using hjl⟩
    have hset : (S ++ []).set j (.lst (strsL fd)) = S := by rw [List.append_nil]; exact set_same hj
    simp only [hset]
    have hin : ∀ s, isntG s .non .non = .val (.bl false) s := fun _ => rfl
    have heq : ∀ s, eqG s .non (.int (b : Int)) = .val (.bl false) s := fun s => by simp [deq, toPy, PySem.PyData.eqv]
    simp -implicitDefEqProofs [-eqG_def, turn, l_best_weeks_1, ef, hin, heq]
  | some n =>
    rw [hn] at ef
    simp only [oD] at ef
    have hin : ∀ (x : Int) s, isntG s (.int x) .non = .val (.bl true) s := fun _ _ => rfl
    by_cases c1 : n < b
    · have c1' : (n : Int) < (b : Int) := by omega
      simp only [if_pos c1]
      have hap : appG (S ++ [SO.lst []]) (.ob S.length) [.str w] = .val .non ((S ++ [SO.lst []]).set S.length (.lst [.str w])) := by simp [appG]
      have hown : isOwn (S ++ [SO.lst []]) (.ob S.length) = true := by simp [isOwn]
      refine ⟨S.length, [.lst []], some (.int (n : Int)), ?_, .inr (Nat.le_refl _), by simp⟩
      have hst : strsL [w] = [.str w] := rfl
      rw [hst]
      simp -implicitDefEqProofs [turn, l_best_weeks_1, ef, hin, c1, c1', hown, hap]
    · have c1' : ¬ (n : Int) < (b : Int) := by omega
      simp only [if_neg c1]
      by_cases c2 : n = b
      · simp only [if_pos c2]
        have hlt : (strsL fd).length < 16000000 := by rw [strsL_len]; omega
        obtain ⟨hown, hap⟩ := app_at (d := .str w) hj hlt
        refine ⟨j, [], some (.int (n : Int)), ?_, .inl rfl, by simpa using hjl⟩
        have hst : strsL (fd ++ [w]) = strsL fd ++ [.str w] := by simp [strsL]
        rw [hst, List.append_nil]
        generalize strsL fd = FD at *
        simp -implicitDefEqProofs [turn, l_best_weeks_1, ef, hin, c1, c1', c2, hown, hap]
      · simp only [if_neg c2]
        have c2' : ¬ (n : Int) = (b : Int) := by omega
        refine ⟨j, [], some (.int (n : Int)), ?_, .inl rfl, by simpa using hjl⟩
        have hset : (S ++ []).set j (.lst (strsL fd)) = S := by rw [List.append_nil]; exact set_same hj
        simp only [hset]
        simp -implicitDefEqProofs [turn, l_best_weeks_1, ef, hin, c1, c1', c2, c2']
theorem best_spec {k : List Nat} {ps : List Pr} (s : Sto) (c : PsOk k ps) (hsz : sizeL ps ≤ 16000000) : m_best_weeks [.str k, .tup (ps.map Pr.d)] s = .val (.lst (strsL (bestW k ps))) s := by
  have hrl : ∀ w ∈ weeksL, w.length = 7 := fun w hw => ((weeksL_mem w).mp hw).1
  have hlen : weeksL.length ≤ 128 := allR_len (List.replicate 7 63) 7
  have hfl : ∀ (L : List (List Nat)) (st : Nat × List (List Nat)), (L.foldl (stepB (fewN k ps)) st).2.length ≤ st.2.length + L.length := fun L => by
    induction L with
    | nil => intro st; simp
    | cons w L ih =>
      intro st
      have := ih (stepB (fewN k ps) st w)
      rw [List.foldl_cons, List.length_cons]
      have h2 : (stepB (fewN k ps) st w).2.length ≤ st.2.length + 1 := by
        unfold stepB
        cases fewN k ps w with
        | none => simp
        | some n => simp only; split <;> (try split) <;> simp
      omega
  obtain ⟨δ', S', e, j, b4, b5, ex, rfl, hj, rfl, hjn⟩ := loop_inv (g := nameG 4) (body := l_best_weeks_1) (xs := strsL weeksL)
    (fun i δ S => ∃ j b4 b5 ex, δ = [some (.str k), some (.tup (ps.map Pr.d)), some (.int (((weeksL.take i).foldl (stepB (fewN k ps)) (k.length, [])).1 : Int)), some (.ob j), b4, b5] ∧ S[j]? = some (.lst (strsL ((weeksL.take i).foldl (stepB (fewN k ps)) (k.length, [])).2)) ∧ S = s ++ ex ∧ s.length ≤ j)
    (fun i x δ S hx I => by
      obtain ⟨j, b4, b5, ex, rfl, hj, hS, hjn⟩ := I
      unfold strsL at hx
      rw [List.getElem?_map] at hx
      obtain ⟨w, hw, rfl⟩ := Option.map_eq_some_iff.mp hx
      have hfd := hfl (weeksL.take i) (k.length, [])
      have hst : (weeksL.take (i + 1)).foldl (stepB (fewN k ps)) (k.length, []) = stepB (fewN k ps) ((weeksL.take i).foldl (stepB (fewN k ps)) (k.length, [])) w := by
        rw [take_snoc hw, List.foldl_append]; rfl
      rw [hst]
      have htl : (weeksL.take i).length ≤ 128 := Nat.le_trans (List.length_take_le' _ _) hlen
      generalize (weeksL.take i).foldl (stepB (fewN k ps)) (k.length, []) = st at *
      obtain ⟨B, FD⟩ := st
      simp only [List.length_nil] at hfd hj
      obtain ⟨j', ex', c5, e, hj', hjl⟩ := bw_turn (a4 := b4) (a5 := b5) c (hrl w (List.mem_of_getElem? hw)) hsz hj (by omega)
      have hj2 : s.length ≤ j' := by
        rcases hj' with rfl | h
        · exact hjn
        · rw [hS, List.length_append] at h; omega
      refine ⟨_, _, e, j', some (.str w), c5, (ex ++ ex').set (j' - s.length) (.lst (strsL (stepB (fewN k ps) (B, FD) w).2)), rfl, List.getElem?_set_self hjl, ?_, hj2⟩
      rw [hS, List.append_assoc, List.set_append_right _ _ hj2])
    (δ := [some (.str k), some (.tup (ps.map Pr.d)), some (.int (k.length : Int)), some (.ob s.length), none, none]) (s := s ++ [.lst []])
    ⟨s.length, none, none, [.lst []], rfl, by simp [strsL], rfl, Nat.le_refl _⟩
  rw [strsL_len, List.take_length] at e hj
  have hbw : (weeksL.foldl (stepB (fewN k ps)) (k.length, [])).2 = bestW k ps := rfl
  rw [hbw] at hj
  have hz : dfz s.length (s ++ ex) 3 (.ob j) = some (.lst (strsL (bestW k ps))) := by
    unfold dfz
    simp only [if_pos hjn, hj]
    rw [dfz_flats s.length (s ++ ex) (show flats (strsL (bestW k ps)) = true from flats_map (f := D.str) (fun _ => rfl) _)]
    rfl
  have hlow : low s.length (.ob j) = false := by simp [low]; omega
  have hout := outF_frz hlow chk_app hz
  rw [take_app] at hout
  have haw := all_weeks_spec (s ++ [.lst []])
  have hL : ∀ s, lenG s [.str k] = .val (.int k.length) s := fun s => lenG_str (by have := c.kl; omega)
  generalize strsL weeksL = WL at *
  simp -implicitDefEqProofs [-outF_rt, m_best_weeks, fnF, b_best_weeks, N_best_weeks, startD, hL, haw, e, hout]
end Fl
set_option Elab.async false
set_option linter.all false
set_option maxRecDepth 100000
set_option maxHeartbeats 2000000
namespace Fl
open L2 PySem
/-! law k13: weeks of one row -/
def nP (n p : Nat) : Nat := if p < n then (n - p - 1) / 7 + 1 else 0
theorem rng_col {p : Nat} (hp : p < 7) : ∀ n : Nat, (List.range n).filter (fun i => i % 7 == p) = (List.range (nP n p)).map fun i => p + 7 * i
  | 0 => by simp [nP]
  | n + 1 => by
    have ih := rng_col hp n
    rw [List.range_succ, List.filter_append, ih]
    by_cases h : n % 7 = p
    · have e : nP (n + 1) p = nP n p + 1 := by unfold nP; split <;> split <;> omega
      have e2 : p + 7 * nP n p = n := by unfold nP; split <;> omega
      rw [e, List.range_succ, List.map_append]
      simp [h, e2]
    · have e : nP (n + 1) p = nP n p := by unfold nP; split <;> split <;> omega
      rw [e]; simp [h]
def colD (r : List Nat) (p : Nat) : List D := (colP r p).map fun x => .str [x]
theorem count_sing (x : Nat) : ∀ l : List Nat, (l.map fun y => [y]).count [x] = l.count x
  | [] => rfl
  | y :: l => by
    rw [List.map_cons, List.count_cons, List.count_cons, count_sing x l]
    congr 1
    by_cases h : y = x
    · rw [h]; simp
    · simp [h]
theorem strsD_sing : ∀ l : List Nat, strsD (l.map fun x => D.str [x]) = some (l.map fun x => [x])
  | [] => rfl
  | x :: l => by rw [List.map_cons, strsD, strsD_sing l]; rfl
theorem cnt_col {s : Sto} {r : List Nat} {p x : Nat} : cntL s (.lst (colD r p)) [.str [x]] = .val (.int ((colP r p).count x : Nat)) s := by
  unfold cntL colD
  simp only [strsD_sing, count_sing]
theorem col_len_le {r : List Nat} {p : Nat} : (colP r p).length ≤ r.length := by
  unfold colP
  rw [List.length_map]
  exact Nat.le_trans (List.length_filter_le _ _) (by simp)
theorem col_comp {s : Sto} {r : List Nat} {p : Nat} {δ : Sl} (hp : p < 7) (hl : r.length ≤ 1000) (h0 : δ[0]? = some (some (.str r))) (h9 : 9 < δ.length) :
    loopC (nameG 9) yes (bin ixG (varF 0) (varF 9)) δ (upC (p : Int) 7 (nP r.length p)) [] s = .val (colD r p) s := by
  have e : colD r p = (List.range (nP r.length p)).map fun i => D.str [r.getD (p + 7 * i) 0] := by
    unfold colD colP
    rw [rng_col hp, List.map_map, List.map_map]; rfl
  have hn : nP r.length p ≤ r.length := by unfold nP; split <;> omega
  rw [e]
  unfold upC
  refine loopC_map (fun (i : Nat) => D.int ((p : Int) + (i : Int) * 7)) (fun i => D.str [r.getD (p + 7 * i) 0]) (List.range (nP r.length p)) (fun i hi => ?_) (by simp; omega)
  have hi' := List.mem_range.mp hi
  have hlt : p + 7 * i < r.length := by unfold nP at hi'; split at hi' <;> omega
  have hg : r.getD (p + 7 * i) 0 = r[p + 7 * i] := by rw [List.getD_eq_getElem?_getD, List.getElem?_eq_getElem hlt]; rfl
  have hx : (p : Int) + (i : Int) * 7 = ((p + 7 * i : Nat) : Int) := by omega
  have hix : ∀ s, ixG s (.str r) (.int ((p + 7 * i : Nat) : Int)) = .val (.str [r[p + 7 * i]]) s := fun s => ixG_str (by omega) (atI_nat (List.getElem?_eq_getElem hlt))
  have g0 : (δ.set 9 (some (.int ((p + 7 * i : Nat) : Int))))[0]? = some (some (.str r)) := by rw [List.getElem?_set_ne (by decide)]; exact h0
  have g9 : (δ.set 9 (some (.int ((p + 7 * i : Nat) : Int))))[9]? = some (some (.int ((p + 7 * i : Nat) : Int))) := List.getElem?_set_self h9
  rw [hx, hg]
  refine ⟨_, rfl, ?_, rfl⟩
  generalize ((p + 7 * i : Nat) : Int) = y at *
  simp -implicitDefEqProofs [g0, g9, hix]
theorem few_inner {s : Sto} {good : List Nat} {a0 a1 a2 a3 a4 a5 a9 : Option D} (hg : good.length ≤ 2) : ∀ (L longer : List (List Nat)) (a8 a10 : Option D), (∀ w ∈ L, w.length ≤ 100) → longer.length + 2 * L.length ≤ 100000 →
    ∃ b8, loopS (nameG 8) l_law_few_1 (strsL L) [a0, a1, a2, a3, a4, a5, some (.lst (good.map fun x => .str [x])), some (.lst (strsL longer)), a8, a9, a10] s =
      .nx [a0, a1, a2, a3, a4, a5, some (.lst (good.map fun x => .str [x])), some (.lst (strsL (longer ++ L.flatMap fun w => good.map fun x => w ++ [x]))), b8, a9, a10] s
  | [], longer, a8, a10, _, _ => ⟨a8, by simp [strsL]⟩
  | w :: L, longer, a8, a10, h, hl => by
    simp only [List.length_cons] at hl
    have hw := h w (List.mem_cons_self ..)
    obtain ⟨b8, ih⟩ := few_inner (a0 := a0) (a1 := a1) (a2 := a2) (a3 := a3) (a4 := a4) (a5 := a5) (a9 := a9) hg L (longer ++ good.map fun x => w ++ [x]) (some (.str w)) a10 (fun z hz => h z (List.mem_cons_of_mem _ hz)) (by simp; omega)
    refine ⟨b8, ?_⟩
    rw [List.flatMap_cons, ← List.append_assoc, ← ih]
    have comp : ∀ δ : Sl, 10 < δ.length → δ[8]? = some (some (.str w)) → loopC (nameG 10) yes (bin addG (varF 8) (varF 10)) δ (good.map fun x => D.str [x]) [] s = .val (good.map fun x => D.str (w ++ [x])) s := fun δ h0 h8 => by
      refine loopC_map (fun x => D.str [x]) (fun x => D.str (w ++ [x])) good (fun x hx => ?_) (by omega)
      have g8 : (δ.set 10 (some (.str [x])))[8]? = some (some (.str w)) := by rw [List.getElem?_set_ne (by decide)]; exact h8
      have g10 : (δ.set 10 (some (.str [x])))[10]? = some (some (.str [x])) := List.getElem?_set_self h0
      have ha : addG s (.str w) (.str [x]) = .val (.str (w ++ [x])) s := addG_str (by simp; omega)
      exact ⟨_, rfl, by simp -implicitDefEqProofs [g8, g10, ha], rfl⟩
    have e2 : strsL (longer ++ good.map fun x => w ++ [x]) = strsL longer ++ good.map fun x => D.str (w ++ [x]) := by simp [strsL]
    have hadd : addG s (.lst (strsL longer)) (.lst (good.map fun x => D.str (w ++ [x]))) = .val (.lst (strsL longer ++ good.map fun x => D.str (w ++ [x]))) s := addG_lst (by rw [strsL_len, List.length_map]; omega)
    rw [e2]
    show loopS (nameG 8) l_law_few_1 (.str w :: strsL L) _ _ = _
    refine loopS_cons ?_
    generalize (good.map fun x => D.str (w ++ [x])) = G2 at *
    generalize (good.map fun x => D.str [x]) = G1 at *
    generalize strsL longer = LG at *
    simp -implicitDefEqProofs [turn, l_law_few_1, wipeD, comp, hadd]
theorem good_len (r : List Nat) (p : Nat) : (goodP r p).length ≤ 2 := List.length_filter_le _ _
theorem weeksF_len (r : List Nat) : ∀ q, (weeksF r q).length ≤ 2 ^ q
  | 0 => by simp [weeksF]
  | q + 1 => by
    have ih := weeksF_len r q
    rw [weeksF]
    have : ∀ L : List (List Nat), (L.flatMap fun w => (goodP r q).map fun x => w ++ [x]).length ≤ L.length * 2 := fun L => by
      induction L with
      | nil => simp
      | cons w L ih => rw [List.flatMap_cons, List.length_append, List.length_map, List.length_cons]; have := good_len r q; omega
    have := this (weeksF r q)
    rw [Nat.pow_succ]; omega
theorem few_turn {s : Sto} {r : List Nat} {p T : Nat} {a3 a4 a5 a6 a7 a8 : Option D} (hp : p < 7) (hl : r.length ≤ 1000) (hr : Row r) :
    ∃ b4 b5 b6 b7 b8, turn (nameG 3) l_law_few_2 (.int (p : Int)) [some (.str r), some (.lst (strsL (weeksF r p))), some (.int (T : Int)), a3, a4, a5, a6, a7, a8, none, none] s =
      .nx [some (.str r), some (.lst (strsL (weeksF r (p + 1)))), some (.int ((T + minP r p : Nat) : Int)), some (.int (p : Int)), b4, b5, b6, b7, b8, none, none] s := by
  have hlen := weeksF_len r p
  have hpw : (2 : Nat) ^ p ≤ 2 ^ 7 := Nat.pow_le_pow_right (by decide) (by omega)
  have h27 : (2 : Nat) ^ 7 = 128 := by decide
  have hwl : ∀ w ∈ weeksF r p, w.length ≤ 100 := fun w hw => by have := (weeksF_mem.mp hw).1; omega
  have hcl := col_len_le (r := r) (p := p)
  have hcc := List.count_le_length (a := 102) (l := colP r p)
  have hLr : ∀ s, lenG s [.str r] = .val (.int r.length) s := fun s => lenG_str (by omega)
  have h7 : sm 7 = true := by decide
  have hrng : ∀ (x : Int), x = p → rng3F (con (varF 3) (con (fnB lenG (con (varF 0) (nil))) (con (cF (.int 7)) (nil)))) [some (.str r), some (.lst (strsL (weeksF r p))), some (.int (T : Int)), some (.int x), a4, a5, a6, a7, a8, none, none] s = .val (upC (p : Int) 7 (nP r.length p)) s := fun x hx => by
    subst hx
    unfold rng3F
    simp -implicitDefEqProofs [hLr, sm_nat (show p ≤ 1000000 by omega), sm_nat (show r.length ≤ 1000000 by omega)]
    congr 1
    unfold nP
    split <;> omega
  have comp1 := fun (δ : Sl) h0 h9 => col_comp (s := s) (r := r) (p := p) (δ := δ) hp hl h0 h9
  have hcnt : ∀ (x : Nat) s, cntL s (.lst (colD r p)) [.str [x]] = .val (.int ((colP r p).count x : Nat)) s := fun _ _ => cnt_col
  have hlc : ((colD r p).length : Int) = ((colP r p).length : Nat) := by simp [colD]
  have hmin : ∀ s, minG s [.int ((colP r p).count 102 : Nat), .int (((colP r p).length : Nat) - ((colP r p).count 102 : Nat) : Int)] = .val (.int (minP r p : Nat)) s := fun s => by
    have e : ∀ i j : Int, minG s [.int i, .int j] = .val (.int (if j < i then j else i)) s := fun _ _ => rfl
    rw [e]
    congr 2
    unfold minP
    split <;> omega
  have comp2 : ∀ δ : Sl, 10 < δ.length → δ[4]? = some (some (.lst (colD r p))) → loopC (nameG 10) (tst (bin geG (bin mulG (meB' isLst cntL (varF 4) (con (varF 10) (nil))) (cF (.int 2))) (fnB lenG (con (varF 4) (nil))))) (varF 10) δ [.str [102], .str [119]] [] s = .val ((goodP r p).map fun x => D.str [x]) s := fun δ h0 h4 => by
    have := loopC_mapf (g := nameG 10) (t := tst (bin geG (bin mulG (meB' isLst cntL (varF 4) (con (varF 10) (nil))) (cF (.int 2))) (fnB lenG (con (varF 4) (nil))))) (e := varF 10) (δ := δ) (s := s) (fun x => D.str [x]) (fun x => decide ((colP r p).length ≤ (colP r p).count x * 2)) (fun x => D.str [x]) [102, 119] [] (fun x hx => by
      have g4 : (δ.set 10 (some (.str [x])))[4]? = some (some (.lst (colD r p))) := by rw [List.getElem?_set_ne (by decide)]; exact h4
      have g10 : (δ.set 10 (some (.str [x])))[10]? = some (some (.str [x])) := List.getElem?_set_self h0
      have hm : ∀ s, mulG s (.int ((colP r p).count x : Nat)) (.int 2) = .val (.int (((colP r p).count x : Nat) * 2)) s := fun s => mulG_r (by decide)
      refine ⟨_, rfl, ?_, fun _ => ⟨?_, rfl⟩⟩
      · simp -implicitDefEqProofs [g4, g10, isLst, hcnt, hm, hlc]
        omega
      · simp -implicitDefEqProofs [g10]) (by simp)
    exact this
  obtain ⟨b8, L1⟩ := few_inner (s := s) (good := goodP r p) (a0 := some (.str r)) (a1 := some (.lst (strsL (weeksF r p)))) (a2 := some (.int ((T + minP r p : Nat) : Int))) (a3 := some (.int (p : Int))) (a4 := some (.lst (colD r p))) (a5 := some (.int ((colP r p).count 102 : Nat))) (a9 := none) (good_len r p) (weeksF r p) [] a8 none hwl (by simp; omega)
  rw [List.nil_append] at L1
  have hw1 : (weeksF r p).flatMap (fun w => (goodP r p).map fun x => w ++ [x]) = weeksF r (p + 1) := rfl
  rw [hw1] at L1
  have hT : (T : Int) + (minP r p : Nat) = ((T + minP r p : Nat) : Int) := by omega
  refine ⟨some (.lst (colD r p)), some (.int ((colP r p).count 102 : Nat)), some (.lst ((goodP r p).map fun x => D.str [x])), some (.lst (strsL (weeksF r (p + 1)))), b8, ?_⟩
  · rw [show strsL ([] : List (List Nat)) = [] from rfl] at L1
    generalize strsL (weeksF r (p + 1)) = W1 at *
    generalize strsL (weeksF r p) = W0 at *
    generalize ((goodP r p).map fun x => D.str [x]) = GD at *
    generalize ((T + minP r p : Nat) : Int) = TT at *
    generalize colD r p = CD at *
    simp -implicitDefEqProofs [turn, l_law_few_2, hrng, wipeD, comp1, isLst, hcnt, hlc, hmin, hT, comp2, L1]
theorem few_spec1 {r : List Nat} (s : Sto) (hl : r.length ≤ 1000) (hr : Row r) : m_law_few [.str r] s = .val (.tup [.int (totalF r : Nat), .lst (strsL (weeksF r 7))]) s := by
  obtain ⟨δ1, s1, e1, ⟨b3, b4, b5, b6, b7, b8, rfl⟩, rfl⟩ := loop_inv (g := nameG 3) (body := l_law_few_2) (xs := upI 0 7)
    (fun i δ s' => (∃ b3 b4 b5 b6 b7 b8, δ = [some (.str r), some (.lst (strsL (weeksF r i))), some (.int (sumN (minP r) i : Nat)), b3, b4, b5, b6, b7, b8, none, none]) ∧ s' = s)
    (fun i x δ s' hx I => by
      obtain ⟨⟨b3, b4, b5, b6, b7, b8, rfl⟩, rfl⟩ := I
      obtain ⟨rfl, hi⟩ := upI_get hx
      rw [show (0 : Int) + (i : Int) = (i : Int) by omega]
      obtain ⟨c4, c5, c6, c7, c8, e⟩ := few_turn (s := s') (T := sumN (minP r) i) (a3 := b3) (a4 := b4) (a5 := b5) (a6 := b6) (a7 := b7) (a8 := b8) hi hl hr
      exact ⟨_, _, e, ⟨_, _, _, _, _, _, rfl⟩, rfl⟩)
    (δ := [some (.str r), some (.lst [.str []]), some (.int 0), none, none, none, none, none, none, none, none]) (s := s) ⟨⟨_, _, _, _, _, _, rfl⟩, rfl⟩
  rw [upI_len] at e1
  have hs : sm 7 = true := by decide
  unfold totalF
  generalize strsL (weeksF r 7) = W at *
  simp -implicitDefEqProofs [m_law_few, fnF, b_law_few, N_law_few, startD, hs, e1]
end Fl
set_option Elab.async false
set_option linter.all false
set_option maxRecDepth 100000
set_option maxHeartbeats 2000000
namespace Fl
open L2 PySem
/-! law k13 -/
def partD (r : List Nat) : D := .tup [.int (totalF r : Nat), .lst (strsL (weeksF r 7))]
def partsD (rows : List (List Nat)) : List D := rows.map partD
theorem parts_deps (rows : List (List Nat)) : deps (partsD rows) ≤ 2 := deps_le fun d hd => by
  obtain ⟨r, _, rfl⟩ := List.mem_map.mp hd
  have := strs_deps (weeksF r 7)
  simp [partD]
  omega
def dueW (m : Nat) (rows : List (List Nat)) : List (List Nat) := rows.flatMap fun r => if totalF r = m then weeksF r 7 else []
theorem due_loop {s : Sto} {m : Nat} {a0 a1 a2 a3 a4 a5 a6 a7 a12 a13 a14 a15 : Option D} : ∀ (rows due : List (List Nat)) (a10 a11 : Option D), due.length + 128 * rows.length ≤ 10000000 →
    ∃ b10 b11, loopS (tupG [nameG 10, nameG 11]) l_law_k13_1 (partsD rows) [a0, a1, a2, a3, a4, a5, a6, a7, some (.lst (strsL due)), some (.int (m : Int)), a10, a11, a12, a13, a14, a15] s =
      .nx [a0, a1, a2, a3, a4, a5, a6, a7, some (.lst (strsL (due ++ dueW m rows))), some (.int (m : Int)), b10, b11, a12, a13, a14, a15] s
  | [], due, a10, a11, _ => ⟨a10, a11, by simp [partsD, dueW]⟩
  | r :: rows, due, a10, a11, hl => by
    simp only [List.length_cons] at hl
    have h128 : (weeksF r 7).length ≤ 128 := weeksF_len r 7
    have hc : (if totalF r = m then weeksF r 7 else []).length ≤ 128 := by split; exact h128; simp
    obtain ⟨b10, b11, ih⟩ := due_loop (a0 := a0) (a1 := a1) (a2 := a2) (a3 := a3) (a4 := a4) (a5 := a5) (a6 := a6) (a7 := a7) (a12 := a12) (a13 := a13) (a14 := a14) (a15 := a15) (s := s) (m := m) rows (due ++ if totalF r = m then weeksF r 7 else []) (some (.int (totalF r : Nat))) (some (.lst (strsL (weeksF r 7)))) (by rw [List.length_append]; omega)
    refine ⟨b10, b11, ?_⟩
    have hd : dueW m (r :: rows) = (if totalF r = m then weeksF r 7 else []) ++ dueW m rows := rfl
    rw [hd, ← List.append_assoc, ← ih]
    show loopS _ _ (partD r :: partsD rows) _ _ = _
    refine loopS_cons ?_
    rw [strsL_app]
    have hadd : ∀ l : List D, l.length ≤ 128 → addG s (.lst (strsL due)) (.lst l) = .val (.lst (strsL due ++ l)) s := fun l h => addG_lst (by rw [strsL_len]; omega)
    have h1 := hadd (strsL (weeksF r 7)) (by rw [strsL_len]; exact h128)
    have h2 := hadd [] (by simp)
    unfold partD
    by_cases q : totalF r = m
    · rw [if_pos q]
      generalize strsL (weeksF r 7) = W at *
      generalize strsL due = DD at *
      simp -implicitDefEqProofs [turn, l_law_k13_1, q, h1]
    · rw [if_neg q]
      have q' : ¬ ((totalF r : Nat) : Int) = (m : Int) := by omega
      have hn : strsL ([] : List (List Nat)) = [] := rfl
      rw [hn]
      generalize strsL (weeksF r 7) = W at *
      generalize strsL due = DD at *
      simp -implicitDefEqProofs [turn, l_law_k13_1, q, q', h2]
theorem least_ex {k : List Nat} {ps : List Pr} (h : rowsR k ps ≠ []) : ∃ m, LeastT k ps m := by
  cases e : minO ((rowsR k ps).map totalF) with
  | none => exact absurd (List.map_eq_nil_iff.mp (minO_none.mp e)) h
  | some m =>
    obtain ⟨h1, h2⟩ := minO_some.mp e
    obtain ⟨r, hr, e1⟩ := List.mem_map.mp h1
    exact ⟨m, ⟨r, hr, e1⟩, fun r hr => h2 _ (List.mem_map.mpr ⟨r, hr, rfl⟩)⟩
theorem strsD_strs : ∀ l : List (List Nat), strsD (strsL l) = some l
  | [] => rfl
  | x :: l => by show strsD (.str x :: strsL l) = _; rw [strsD, strsD_strs l]; rfl
theorem ss_weeks {fa : EF} {δ : Sl} {s s1 : Sto} {l zs : List (List Nat)} (h : fa δ s = .val (.lst (strsL l)) s1) (hf : FlSet.Few l) (hz : srtS l = zs) : ssF fa δ s = .val (.lst (strsL zs)) s1 := by
  unfold ssF
  rw [h, O.bind_val]
  simp only [view_lst]
  cases l with
  | nil =>
    have e1 : srtS [] = ([] : List (List Nat)) := srtS_eq .nil (fun k => Iff.rfl)
    rw [e1] at hz
    subst hz
    have e2 : srtI [] = ([] : List Int) := srtI_eq .nil (fun k => Iff.rfl)
    have e3 : intsD (strsL []) = some [] := rfl
    simp only [e3]
    rw [if_pos (few_len (by simp)), e2]; rfl
  | cons x l =>
    have e3 : intsD (strsL (x :: l)) = none := rfl
    simp only [e3, strsD_strs]
    rw [if_pos hf, hz]; rfl
theorem k13_body {s : Sto} {x : D} {a0 a2 a3 a4 a5 a6 a7 a8 a9 a10 a11 a12 a13 a14 a15 : Option D} (T : Tap 0 s) :
    ∃ δ2 s2, l_law_k13_3 [a0, some (.ob 0), a2, a3, a4, a5, a6, a7, a8, a9, a10, a11, a12, a13, a14, a15] s = .nx δ2 s2 ∧ Inv 16 δ2 s2 := by
  obtain ⟨v, s1, e1, d1, u1, w1⟩ := draw (many := 4) T (by omega) (by omega)
  have T1 := T.dr d1
  obtain ⟨r, s2, e2, d2, hrl, hr⟩ := row_spec (n := 8 + v) T1 (by omega) (by omega)
  have T2 := T1.dr d2
  obtain ⟨k, s3, e3, d3, hkl, hkd⟩ := masked_spec T2 (show r.length ≤ 1000 by omega)
  have T3 := T2.dr d3
  obtain ⟨ps, s4, e4, d4, hps, hpl⟩ := promises_spec5 (most := 3) T3 (show r.length ≤ 90 by omega) (by omega) hr (by omega) (by omega)
  have T4 := T3.dr d4
  have hkn : Kn k := masked_kn hr hkl hkd
  have c : Case k ps := ⟨hkn, by omega, fun p hp => by rw [hkl]; exact (hps p hp).1⟩
  have hsz := size_ok (k := k) (ps := ps) (by omega) (by omega) (fun p hp => (hps p hp).2)
  have hs2 : sizeL ps ≤ 16000000 := Nat.le_trans (Nat.le_mul_of_pos_left _ (by omega)) hsz
  have cp : PsOk k ps := case_ps c (by omega)
  have hrw := fun s => rows_spec (s := s) c (show k.length ≤ 14 by omega) (by omega)
  have hR : (rowsR k ps).length ≤ 16384 := Nat.le_trans (rows_pow k ps) (Nat.le_trans (Nat.pow_le_pow_right (by decide) (show k.length ≤ 14 by omega)) (by decide))
  have hrow : ∀ r ∈ rowsR k ps, Row r ∧ r.length ≤ 1000 := fun r hr => ⟨((rows_mem hkn r).mp hr).row, by have := ((rows_mem hkn r).mp hr).len; omega⟩
  have comp : ∀ δ : Sl, 14 < δ.length → loopC (nameG 14) yes (callF 1 m_law_few (con (varF 14) (nil))) δ (strsL (rowsR k ps)) [] s4 = .val (partsD (rowsR k ps)) s4 := fun δ h0 => by
    refine loopC_map D.str partD (rowsR k ps) (fun r hr => ?_) (by omega)
    have g14 : (δ.set 14 (some (.str r)))[14]? = some (some (.str r)) := List.getElem?_set_self h0
    have hf := few_spec1 s4 (hrow r hr).2 (hrow r hr).1
    exact ⟨_, rfl, by simp -implicitDefEqProofs [g14, hf, partD], rfl⟩
  have hn0 := fun s => ne_nil (s := s) (Nat.le_trans (parts_deps (rowsR k ps)) (show 2 ≤ 59 by decide))
  have hpe : (partsD (rowsR k ps)).isEmpty = (rowsR k ps).isEmpty := by unfold partsD; rw [List.isEmpty_map]
  rw [hpe] at hn0
  have hbest := fun s => best_spec s cp hs2
  have hwl : ∀ w ∈ bestW k ps, w.length = 7 := fun w hw => by
    have hsub : bestW k ps ⊆ weeksL := fun w hw => by
      obtain ⟨_, _, _, i4⟩ := best_fold (fewN k ps) weeksL (k.length, [])
      unfold bestW at hw
      rw [i4] at hw
      rcases List.mem_append.mp hw with q | q
      · split at q <;> cases q
      · exact (List.mem_filter.mp q).1
    exact ((weeksL_mem w).mp (hsub hw)).1
  have hbl : (bestW k ps).length ≤ 128 := by
    have h1 := nodup_sub_len (l := bestW k ps) (m := weeksL) ((bestW_pw k ps).imp fun h e => by subst e; exact List.lt_irrefl _ h) fun w hw => by
      obtain ⟨_, _, _, i4⟩ := best_fold (fewN k ps) weeksL (k.length, [])
      unfold bestW at hw
      rw [i4] at hw
      rcases List.mem_append.mp hw with q | q
      · split at q <;> cases q
      · exact (List.mem_filter.mp q).1
    exact Nat.le_trans h1 (allR_len (List.replicate 7 63) 7)
  have hlike : ∀ s, m_law_like [.lst (strsL (bestW k ps)), .lst (strsL (bestW k ps))] s = .val (.bl true) s := fun s => by
    refine like_same 4 (.lst (strsL (bestW k ps))) (.lst (strsL (bestW k ps))) (.lst (strsL (bestW k ps))) s ?_ ?_ (by decide) rfl rfl
    · rw [okD, Bool.and_eq_true, decide_eq_true_eq]
      exact ⟨by rw [strsL_len]; omega, okDs_map (fun _ => by simp [okD]) _⟩
    · have := strs_deps (bestW k ps)
      simp; omega
  have hcut : cutD (strsL (bestW k ps)) none (some 3) = strsL ((bestW k ps).take 3) := by
    by_cases q : 3 ≤ (strsL (bestW k ps)).length
    · have := cut_take (ds := strsL (bestW k ps)) (i := 3) q
      rw [show some ((3 : Nat) : Int) = some 3 from rfl] at this
      rw [this]; unfold strsL; rw [List.map_take]
    · have q1 : (strsL (bestW k ps)).length ≤ 3 := by omega
      have q2 : (bestW k ps).length ≤ 3 := by rw [strsL_len] at q1; exact q1
      have e3 : (3 : Int) = ((3 : Nat) : Int) := rfl
      rw [List.take_of_length_le q2, e3]
      unfold cutD
      rw [HT.sIx_none, HT.sIx_nat, Nat.min_eq_right q1, List.drop_zero, Nat.sub_zero, List.take_of_length_le (Nat.le_refl _)]
  have D4 : Dr 0 s s4 := ((d1.trans d2).trans d3).trans d4
  by_cases g : rowsR k ps = []
  · have hb0 := bestW_none g
    rw [hb0] at hbest hlike hcut
    rw [g] at hn0 comp hrw
    have hcut' : cutD (strsL []) none (some 3) = [] := hcut
    have hss : ∀ δ : Sl, δ[8]? = some (some (.lst [])) → ssF (varF 8) δ s4 = .val (.lst (strsL [])) s4 := fun δ h => ss_weeks (l := []) (zs := []) (by simp only [varF, h]; rfl) (few_len (by simp)) (srtS_eq .nil (fun k => Iff.rfl))
    refine ⟨[a0, some (.ob 0), a2, some (.str r), some (.str k), some (.tup (ps.map Pr.d)), some (.lst []), some (.lst []), some (.lst []), some .non, a10, a11, some (.lst []), a13, a14, a15], s4, ?_, ⟨rfl, rfl, T4⟩⟩
    have hn : strsL ([] : List (List Nat)) = [] := rfl
    have hpn : partsD [] = [] := rfl
    rw [hn] at hbest hlike hcut' hrw
    rw [hn] at hss
    rw [hn, hpn] at comp
    rw [hpn] at hn0
    simp -implicitDefEqProofs [-neG_def, l_law_k13_3, e1, e2, e3, e4, hrw, wipeD, hn0, hbest, hss, hlike, hcut']
  · have he : (rowsR k ps).isEmpty = false := by
      cases q : rowsR k ps with
      | nil => exact absurd q g
      | cons a l => rfl
    rw [he] at hn0
    obtain ⟨m, hm⟩ := least_ex g
    have comp2 : ∀ δ : Sl, 15 < δ.length → loopC (nameG 15) yes (bin ixG (varF 15) (cF (.int 0))) δ (partsD (rowsR k ps)) [] s4 = .val ((rowsR k ps).map fun r => D.int (totalF r : Nat)) s4 := fun δ h0 => by
      refine loopC_map partD (fun r => D.int (totalF r : Nat)) (rowsR k ps) (fun r hr => ?_) (by omega)
      have g15 : (δ.set 15 (some (partD r)))[15]? = some (some (partD r)) := List.getElem?_set_self h0
      refine ⟨_, rfl, ?_, rfl⟩
      unfold partD at g15 ⊢
      simp -implicitDefEqProofs [g15]
    have hmin : ∀ s, minG s [.lst ((rowsR k ps).map fun r => D.int (totalF r : Nat))] = .val (.int (m : Nat)) s := fun s => min_spec (f := fun r => ((totalF r : Nat) : Int)) (by obtain ⟨r, hr, e⟩ := hm.at_; exact ⟨r, hr, by rw [e]⟩) (fun r hr => by have := hm.le r hr; omega)
    obtain ⟨b10, b11, L1⟩ := due_loop (s := s4) (m := m) (a0 := a0) (a1 := some (.ob 0)) (a2 := a2) (a3 := some (.str r)) (a4 := some (.str k)) (a5 := some (.tup (ps.map Pr.d))) (a6 := some (.lst (strsL (rowsR k ps)))) (a7 := some (.lst (partsD (rowsR k ps)))) (a12 := a12) (a13 := a13) (a14 := a14) (a15 := a15) (rowsR k ps) [] a10 a11 (by simp; omega)
    rw [List.nil_append, show strsL ([] : List (List Nat)) = [] from rfl] at L1
    have hdm : ∀ w, w ∈ bestW k ps ↔ w ∈ dueW m (rowsR k ps) := fun w => by
      rw [bestW_mem hkn hm]
      unfold dueW
      rw [List.mem_flatMap]
      constructor
      · rintro ⟨r, hr, e, hw⟩
        exact ⟨r, hr, by rw [if_pos e]; exact hw⟩
      · rintro ⟨r, hr, hw⟩
        by_cases e : totalF r = m
        · rw [if_pos e] at hw; exact ⟨r, hr, e, hw⟩
        · rw [if_neg e] at hw; cases hw
    have hss : ∀ δ : Sl, δ[8]? = some (some (.lst (strsL (dueW m (rowsR k ps))))) → ssF (varF 8) δ s4 = .val (.lst (strsL (bestW k ps))) s4 := fun δ h => ss_weeks (by simp only [varF, h]) ⟨bestW k ps, by show _ < 4096; omega, fun w hw => (hdm w).mpr hw⟩ (srtS_eq (bestW_pw k ps) hdm)
    obtain ⟨δ', s', L2, ⟨b13, rfl⟩, rfl⟩ := loop_inv (g := nameG 13) (body := l_law_k13_2) (xs := strsL ((bestW k ps).take 3))
      (fun _ δ s' => (∃ b13, δ = [a0, some (.ob 0), a2, some (.str r), some (.str k), some (.tup (ps.map Pr.d)), some (.lst (strsL (rowsR k ps))), some (.lst (partsD (rowsR k ps))), some (.lst (strsL (dueW m (rowsR k ps)))), some (.int (m : Int)), b10, b11, some (.lst (strsL (bestW k ps))), b13, a14, a15]) ∧ s' = s4)
      (fun i y δ s' hx I => by
        obtain ⟨⟨b13, rfl⟩, rfl⟩ := I
        unfold strsL at hx
        rw [List.getElem?_map] at hx
        obtain ⟨w, hw, rfl⟩ := Option.map_eq_some_iff.mp hx
        have hwm := List.mem_of_mem_take (List.mem_of_getElem? hw)
        have ef := few_fun (week := w) s' cp (hwl w hwm) hs2
        have hwk : w ∈ weeksL := (weeksL_mem w).mpr ⟨hwl w hwm, by
          obtain ⟨r, _, _, hw'⟩ := (bestW_mem hkn hm w).mp hwm
          exact weeks_row hw'⟩
        rw [(few_least hkn hm hwk).2.mpr ((bestW_mem hkn hm w).mp hwm)] at ef
        simp only [oD] at ef
        refine ⟨_, _, ?_, ⟨some (.str w), rfl⟩, rfl⟩
        simp -implicitDefEqProofs [turn, l_law_k13_2, ef])
      (δ := [a0, some (.ob 0), a2, some (.str r), some (.str k), some (.tup (ps.map Pr.d)), some (.lst (strsL (rowsR k ps))), some (.lst (partsD (rowsR k ps))), some (.lst (strsL (dueW m (rowsR k ps)))), some (.int (m : Int)), b10, b11, some (.lst (strsL (bestW k ps))), a13, a14, a15]) (s := s4) ⟨⟨_, rfl⟩, rfl⟩
    refine ⟨[a0, some (.ob 0), a2, some (.str r), some (.str k), some (.tup (ps.map Pr.d)), some (.lst (strsL (rowsR k ps))), some (.lst (partsD (rowsR k ps))), some (.lst (strsL (dueW m (rowsR k ps)))), some (.int (m : Int)), b10, b11, some (.lst (strsL (bestW k ps))), b13, a14, a15], s', ?_, ⟨rfl, rfl, T4⟩⟩
    · generalize strsL (bestW k ps) = BW at *
      generalize strsL ((bestW k ps).take 3) = BT at *
      generalize strsL (dueW m (rowsR k ps)) = DW at *
      generalize partsD (rowsR k ps) = PD at *
      generalize ((rowsR k ps).map fun r => D.int (totalF r : Nat)) = MT at *
      generalize strsL (rowsR k ps) = RW at *
      simp -implicitDefEqProofs [-neG_def, l_law_k13_3, e1, e2, e3, e4, hrw, wipeD, comp, hn0, comp2, hmin, L1, hbest, hss, hlike, hcut, L2]
theorem law_turn1 {N : List PySem.Str} {n : Nat} {body ret : SF} (hN : N.length = n) (hn : 2 ≤ n) (step : ∀ x δ s, Inv n δ s → ∃ δ2 s2, turn (nameG 2) body x δ s = .nx δ2 s2 ∧ Inv n δ2 s2) (hret : ∀ δ s, Inv n δ s → ∃ s', ret δ s = .rt (.bl true) s') (ns : List Int) :
    ∃ s, fnF N 1 (seqS (setS 1 (ownE (con (fnB listF (con (varF 0) (nil))) (con (cF (.int 0)) (con (cF (.int 0)) (nil)))))) (seqS (forS (walkF (tupE (con (cF (.int 0)) (nil)))) (nameG 2) body) ret)) [.scr ns] [] = .val (.bl true) s := by
  have T0 : Tap 0 [Tp.o ⟨ns, 0, 0⟩] := ⟨⟨ns, 0, 0⟩, ⟨Int.le_refl _, Int.le_refl _⟩, rfl⟩
  obtain ⟨k, rfl⟩ : ∃ k, n = k + 2 := ⟨n - 2, by omega⟩
  have hst : startD N [.scr ns] = some (.scr ns) :: none :: List.replicate k none := by
    unfold startD
    rw [hN]
    show some (D.scr ns) :: List.replicate (k + 1) none = _
    rw [List.replicate_succ]
  obtain ⟨δ', s', e2, I⟩ := loop_inv (g := nameG 2) (body := body) (xs := [.int 0]) (fun _ δ s => Inv (k + 2) δ s) (fun i x δ s _ h => step x δ s h)
    (δ := some (.scr ns) :: some (.ob 0) :: List.replicate k none) (s := [Tp.o ⟨ns, 0, 0⟩]) ⟨by simp, rfl, T0⟩
  obtain ⟨s2, e3⟩ := hret δ' s' I
  unfold Tp.o at e2
  refine ⟨s2.take 0, ?_⟩
  simp -implicitDefEqProofs [fnF, hst, e2, e3]
theorem law_k13_true (ns : List Int) (hn : ns.length ≤ 63) : ∃ s, m_law_k13 [.scr ns] [] = .val (.bl true) s := by
  unfold m_law_k13 b_law_k13
  refine law_turn1 (N := N_law_k13) (n := 16) rfl (by omega) (fun x δ s I => ?_) (fun δ s I => ⟨s, ?_⟩) ns
  · obtain ⟨hl, h1, T⟩ := I
    match δ, hl, h1 with
    | [a0, b1, a2, a3, a4, a5, a6, a7, a8, a9, a10, a11, a12, a13, a14, a15], _, h1 =>
      obtain rfl : b1 = some (.ob 0) := by simpa using h1
      obtain ⟨δ2, s2, e, I2⟩ := k13_body (x := x) (a0 := a0) (a2 := some x) (a3 := a3) (a4 := a4) (a5 := a5) (a6 := a6) (a7 := a7) (a8 := a8) (a9 := a9) (a10 := a10) (a11 := a11) (a12 := a12) (a13 := a13) (a14 := a14) (a15 := a15) T
      refine ⟨δ2, s2, ?_, I2⟩
      simp -implicitDefEqProofs [turn, e]
  · have b1 := best_spec (k := [102]) (ps := [⟨kBy, 0, 0, 0⟩]) s ⟨by unfold Kn; decide, by decide, by decide, fun p hp => by
      obtain rfl : p = ⟨kBy, 0, 0, 0⟩ := by simpa using hp
      exact ⟨.inr (.inl rfl), by decide, by decide, by decide⟩⟩ (by decide)
    rw [bestW_none (by decide +kernel)] at b1
    have b2 := best_spec (k := [119, 119, 119, 119, 119, 102, 102, 119, 119, 119, 119, 119, 102, 102]) (ps := []) s ⟨by unfold Kn; decide, by decide, by decide, fun p hp => nomatch hp⟩ (by decide)
    have e2 : bestW [119, 119, 119, 119, 119, 102, 102, 119, 119, 119, 119, 119, 102, 102] [] = [[119, 119, 119, 119, 119, 102, 102]] := by decide +kernel
    rw [e2] at b2
    have b1' : m_best_weeks [.str [102], .tup [.tup [.str [98, 121], .int (-1), .int 1, .int 0]]] s = .val (.lst []) s := b1
    have b2' : m_best_weeks [.str [119, 119, 119, 119, 119, 102, 102, 119, 119, 119, 119, 119, 102, 102], .tup []] s = .val (.lst [.str [119, 119, 119, 119, 119, 102, 102]]) s := b2
    have m1 : mulG s (.str [119, 119, 119, 119, 119, 102, 102]) (.int 2) = .val (.str [119, 119, 119, 119, 119, 102, 102, 119, 119, 119, 119, 119, 102, 102]) s := rfl
    simp -implicitDefEqProofs [b1', b2', m1]
end Fl
set_option Elab.async false
set_option linter.all false
set_option maxRecDepth 100000
set_option maxHeartbeats 2000000
namespace Fl
open PySem PySem.Spec PyProof.Rows L2
def top (i : Nat) : Stmt := PySem.Challenge.pw_workdaylogs_k13_whole_best_weeks.main.body.getD i (.Pass ⟨0, 0, 0, 0⟩)
structure Tx (K : PySem.W.Frag) (mg : Str → Option Value) : Prop where
  nzip : mg "zip" = none
  ntuple : mg "tuple" = none
  nint : mg "int" = none
  nmax : mg "max" = none
  nlen : mg "len" = none
  nrange : mg "range" = none
  nlist : mg "list" = none
  nisinstance : mg "isinstance" = none
  nbool : mg "bool" = none
  nmin : mg "min" = none
  nsorted : mg "sorted" = none
  nset : mg "set" = none
  cWEEK : ∃ t, mg "WEEK" = some (.int 7 t)
  kTable : ClsOk K 0
section
variable {P : Program} {w : World} {K : PySem.W.Frag} {mg : Str → Option Value} {base : Heap} {cl : Nat → Value}
abbrev s_started : Stmt := top 1
theorem sc_started : FnScope N_started ["promises", "day", "left"] (defScope s_started) := ⟨rfl, rfl, rfl, by decide +kernel, rfl, by decide +kernel, by decide +kernel⟩
theorem bi_started {f : Addr} {fd : FuncData} (F : FnP K "started" "started" s_started f fd) : Binds K fd ["promises", "day", "left"] [] := F.bindsN fun _ _ _ _ _ _ us hl => match us, hl with | [_, _, _], _ => rfl
theorem j_started (T : Tx K mg) {f : Addr} {fd : FuncData} (F : FnP K "started" "started" s_started f fd)  : JAt P w K mg base cl 1 f 3 m_started := by
  have nd := sc_started.nd
  refine fn_ok (N := N_started) (ps := ["promises", "day", "left"]) (body := b_started) F (bi_started F) sc_started fun cdv A outer s H E hr tk po => ?_
  exact (jss_cons (js_set (i := 3) nd (je_own ja_nil))
      (jss_cons (js_for po rfl (ji_zip (by rfl) T.nzip (ja_cons (je_var 0) (ja_cons (je_var 2) ja_nil))) (jg_tup rfl (jgs_cons (jg_name (i := 4) nd) (jgs_cons (jg_name (i := 5) nd) jgs_nil))) (jss_cons (js_asg (je_var 4) (jg_tup rfl (jgs_cons (jg_name (i := 6) nd) (jgs_cons (jg_name (i := 7) nd) (jgs_cons (jg_name (i := 8) nd) (jgs_cons (jg_name (i := 9) nd) jgs_nil))))))
      (jss_cons (js_if (jt_cmp (op_eqD hr.units) ok_eq (je_op op_addU ok_add (je_var 7) je_int) (je_var 1) (nomark _)) (jss_one (js_set (i := 5) nd (je_var 8))) jss_nil)
      (jss_cons (js_if (jt_w (jw_and (jt_cmp op_isntU ok_isnt (je_var 5) je_non (nomark _)) (jw_and (jt_cmp (op_neD hr.units) ok_ne (je_var 6) (je_str [98, 121]) (nomark _)) (jw_and1 (jt_cmp op_lt ok_lt (je_var 5) je_int (nomark _)))))) (jss_one (js_ret je_non)) jss_nil)
      (jss_one (js_expr (je_bm PySem.F.plainAttrs_list PySem.F.slot_list_append PySem.F.type_list_append mt_append ty_own ok_app (je_var 3) (ja_cons (je_var 5) ja_nil))))))))
      (jss_one (js_ret (je_callTy call_tupU ok_tuple (by rfl) T.ntuple bb_tuple (ja_cons (je_var 3) ja_nil))))))
abbrev s_ended : Stmt := top 2
theorem sc_ended : FnScope N_ended ["promises", "day", "letter", "left"] (defScope s_ended) := ⟨rfl, rfl, rfl, by decide +kernel, rfl, by decide +kernel, by decide +kernel⟩
theorem bi_ended {f : Addr} {fd : FuncData} (F : FnP K "ended" "ended" s_ended f fd) : Binds K fd ["promises", "day", "letter", "left"] [] := F.bindsN fun _ _ _ _ _ _ us hl => match us, hl with | [_, _, _, _], _ => rfl
theorem j_ended (T : Tx K mg) {f : Addr} {fd : FuncData} (F : FnP K "ended" "ended" s_ended f fd)  : JAt P w K mg base cl 1 f 4 m_ended := by
  have nd := sc_ended.nd
  refine fn_ok (N := N_ended) (ps := ["promises", "day", "letter", "left"]) (body := b_ended) F (bi_ended F) sc_ended fun cdv A outer s H E hr tk po => ?_
  exact (jss_cons (js_set (i := 4) nd (je_own ja_nil))
      (jss_cons (js_for po rfl (ji_zip (by rfl) T.nzip (ja_cons (je_var 0) (ja_cons (je_var 3) ja_nil))) (jg_tup rfl (jgs_cons (jg_name (i := 5) nd) (jgs_cons (jg_name (i := 6) nd) jgs_nil))) (jss_cons (js_asg (je_var 5) (jg_tup rfl (jgs_cons (jg_name (i := 7) nd) (jgs_cons (jg_name (i := 8) nd) (jgs_cons (jg_name (i := 9) nd) (jgs_cons (jg_name (i := 10) nd) jgs_nil))))))
      (jss_cons (js_if (jt_cmp op_isntU ok_isnt (je_var 6) je_non (nomark _)) (jss_cons (js_set (i := 6) nd (je_callB (call_maxU rfl) ok_max (by rfl) T.nmax bb_max (ja_cons je_int (ja_cons (je_op op_sub ok_sub (je_var 6) (je_callTy call_int1 ok_intOf (by rfl) T.nint bb_int (ja_cons (je_cmp (op_eqD hr.units) ok_eq (je_var 2) (je_str [119]) (nomark _)) ja_nil))) ja_nil))))
      (jss_one (js_if (jt_cmp (op_eqD hr.units) ok_eq (je_var 1) (je_var 10) (nomark _)) (jss_cons (js_if (jt_w (jw_and (jt_cmp (op_neD hr.units) ok_ne (je_var 7) (je_str [102, 114, 111, 109]) (nomark _)) (jw_and1 (jt_cmp op_gt ok_gt (je_var 6) je_int (nomark _))))) (jss_one (js_ret je_non)) jss_nil)
      (jss_one (js_set (i := 6) nd je_non))) jss_nil))) jss_nil)
      (jss_one (js_expr (je_bm PySem.F.plainAttrs_list PySem.F.slot_list_append PySem.F.type_list_append mt_append ty_own ok_app (je_var 4) (ja_cons (je_var 6) ja_nil)))))))
      (jss_one (js_ret (je_callTy call_tupU ok_tuple (by rfl) T.ntuple bb_tuple (ja_cons (je_var 4) ja_nil))))))
abbrev s_TableD__initD_ : Stmt := mth (top 3) 0
theorem sc_TableD__initD_ : FnScope N_TableD__initD_ ["self", "known", "promises"] (defScope s_TableD__initD_) := ⟨rfl, rfl, rfl, by decide +kernel, rfl, by decide +kernel, by decide +kernel⟩
theorem bi_TableD__initD_ {f : Addr} {fd : FuncData} (F : FnP K "__init__" "Table.__init__" s_TableD__initD_ f fd) : Binds K fd ["self", "known", "promises"] [] := F.bindsN fun _ _ _ _ _ _ us hl => match us, hl with | [_, _, _], _ => rfl
theorem j_TableD__initD_ (T : Tx K mg) {f : Addr} {fd : FuncData} (F : FnP K "__init__" "Table.__init__" s_TableD__initD_ f fd)  : JAt P w K mg base cl 1 f 3 m_TableD__initD_ := by
  have nd := sc_TableD__initD_.nd
  refine fn_okK (N := N_TableD__initD_) (ps := ["self", "known", "promises"]) (body := b_TableD__initD_) F (bi_TableD__initD_ F) sc_TableD__initD_ fun cdv A outer s H E hr tk po => ?_
  exact (jss_cons (js_fld 0 T.kTable (je_var 0) (je_var 1))
      (jss_cons (js_fld 1 T.kTable (je_var 0) (je_var 2))
      (jss_one (js_fld 2 T.kTable (je_var 0) je_dicE))))
abbrev s_Table_steps : Stmt := mth (top 3) 1
theorem sc_Table_steps : FnScope N_Table_steps ["self", "day", "left"] (defScope s_Table_steps) := ⟨rfl, rfl, rfl, by decide +kernel, rfl, by decide +kernel, by decide +kernel⟩
theorem bi_Table_steps {f : Addr} {fd : FuncData} (F : FnP K "steps" "Table.steps" s_Table_steps f fd) : Binds K fd ["self", "day", "left"] [] := F.bindsN fun _ _ _ _ _ _ us hl => match us, hl with | [_, _, _], _ => rfl
theorem j_Table_steps (T : Tx K mg) {f : Addr} {fd : FuncData} (F : FnP K "steps" "Table.steps" s_Table_steps f fd) (J_started : JFn P w K mg base cl 1 "started" 3 m_started) (J_ended : JFn P w K mg base cl 1 "ended" 4 m_ended) : JAt P w K mg base cl 2 f 3 m_Table_steps := by
  have nd := sc_Table_steps.nd
  refine fn_ok (N := N_Table_steps) (ps := ["self", "day", "left"]) (body := b_Table_steps) F (bi_Table_steps F) sc_Table_steps fun cdv A outer s H E hr tk po => ?_
  exact (jss_cons (js_set (i := 3) nd (je_call J_started hr (by decide) tk (by rfl) (ja_cons (je_fld 1 T.kTable (je_var 0)) (ja_cons (je_var 1) (ja_cons (je_var 2) ja_nil)))))
      (jss_cons (js_set (i := 4) nd (je_own ja_nil))
      (jss_cons (js_for po rfl (ji_any (je_ite (jt_cmp op_isntU ok_isnt (je_var 3) je_non (nomark _)) (je_str [102, 119]) (je_str []))) (jg_name (i := 5) nd) (jss_one (js_if (jt_cmp (op_inU (un65 hr)) ok_in (je_ix ix_U ok_ix (je_fld 0 T.kTable (je_var 0)) (je_var 1) (fun _ _ => rfl)) (je_tup (ja_cons (je_var 5) (ja_cons (je_str [63]) ja_nil))) (by rfl)) (jss_cons (js_set (i := 6) nd (je_call J_ended hr (by decide) tk (by rfl) (ja_cons (je_fld 1 T.kTable (je_var 0)) (ja_cons (je_var 1) (ja_cons (je_var 5) (ja_cons (je_var 3) ja_nil))))))
      (jss_one (js_if (jt_cmp op_isntU ok_isnt (je_var 6) je_non (nomark _)) (jss_one (js_expr (je_bm PySem.F.plainAttrs_list PySem.F.slot_list_append PySem.F.type_list_append mt_append ty_own ok_app (je_var 4) (ja_cons (je_tup (ja_cons (je_var 5) (ja_cons (je_var 6) ja_nil))) ja_nil)))) jss_nil))) jss_nil)))
      (jss_one (js_ret (je_var 4))))))
abbrev s_nearest : Stmt := top 6
theorem sc_nearest : FnScope N_nearest ["known", "promises", "week"] (defScope s_nearest) := ⟨rfl, rfl, rfl, by decide +kernel, rfl, by decide +kernel, by decide +kernel⟩
theorem bi_nearest {f : Addr} {fd : FuncData} (F : FnP K "nearest" "nearest" s_nearest f fd) : Binds K fd ["known", "promises", "week"] [] := F.bindsN fun _ _ _ _ _ _ us hl => match us, hl with | [_, _, _], _ => rfl
theorem j_nearest (T : Tx K mg) {f : Addr} {fd : FuncData} (F : FnP K "nearest" "nearest" s_nearest f fd) (J_TableD__initD_ : JMk P w K mg base cl 1 0 3 m_TableD__initD_) (J_Table_steps : JMt P w K mg base cl 2 0 "steps" 3 m_Table_steps) : JAt P w K mg base cl 3 f 3 m_nearest := by
  have nd := sc_nearest.nd
  refine fn_ok (N := N_nearest) (ps := ["known", "promises", "week"]) (body := b_nearest) F (bi_nearest F) sc_nearest fun cdv A outer s H E hr tk po => ?_
  exact (jss_cons (js_set (i := 3) nd (je_make rfl J_TableD__initD_ hr (by decide) tk (by rfl) (ja_cons (je_var 0) (ja_cons (je_var 1) ja_nil))))
      (jss_cons (js_set (i := 4) nd (je_dic1 (un65 hr) (je_op op_mulT ok_mulT (je_tup (ja_cons je_non ja_nil)) (je_callB call_len ok_len (by rfl) T.nlen bb_len (ja_cons (je_var 1) ja_nil))) (je_tup (ja_cons je_int (ja_cons (je_str []) ja_nil)))))
      (jss_cons (js_for po rfl (ji_range1 (by rfl) T.nrange (ja_cons (je_callB call_len ok_len (by rfl) T.nlen bb_len (ja_cons (je_var 0) ja_nil)) ja_nil)) (jg_name (i := 5) nd) (jss_cons (js_set (i := 6) nd je_dicE)
      (jss_cons (js_for po rfl (ji_dic (je_var 4)) (jg_tup rfl (jgs_cons (jg_name (i := 7) nd) (jgs_cons (jg_tup rfl (jgs_cons (jg_name (i := 8) nd) (jgs_cons (jg_name (i := 9) nd) jgs_nil))) jgs_nil))) (jss_one (js_for po rfl (ji_any (je_meth J_Table_steps T.kTable hr (by decide) tk (je_var 3) (ja_cons (je_var 5) (ja_cons (je_var 7) ja_nil)))) (jg_tup rfl (jgs_cons (jg_name (i := 10) nd) (jgs_cons (jg_name (i := 11) nd) jgs_nil))) (jss_cons (js_set (i := 12) nd (je_op op_addU ok_add (je_var 8) (je_callTy call_int1 ok_intOf (by rfl) T.nint bb_int (ja_cons (je_cmp (op_neD hr.units) ok_ne (je_var 10) (je_ix ix_U ok_ix (je_var 2) (je_op op_mod ok_mod (je_var 5) (je_globI T.cWEEK (by rfl))) (fun _ _ => rfl)) (nomark _)) ja_nil))))
      (jss_one (js_if (jt_w (jw_or (jt_cmp (op_ninDk (un65 hr)) ok_inDk (je_var 11) (je_var 6) (by rfl)) (jw_or1 (jt_cmp op_lt ok_lt (je_var 12) (je_ix ix_U ok_ix (je_ix (ix_Dk (un65 hr)) ok_ixDk (je_var 6) (je_var 11) (fun _ _ => rfl)) je_int (fun _ _ => rfl)) (nomark _))))) (jss_one (js_asg (je_tup (ja_cons (je_var 12) (ja_cons (je_op op_addU ok_add (je_var 9) (je_var 10)) ja_nil))) (jg_setD (cl := cl) (un65 hr) (je_var 6) (je_var 11)))) jss_nil))))))
      (jss_one (js_set (i := 4) nd (je_var 6))))))
      (jss_cons (js_set (i := 13) nd je_non)
      (jss_cons (js_for po rfl (ji_dic (je_var 4)) (jg_tup rfl (jgs_cons (jg_name (i := 7) nd) (jgs_cons (jg_name (i := 14) nd) jgs_nil))) (jss_one (js_if (jt_w (jw_or (jt_cmp op_isU ok_is (je_var 13) je_non (nomark _)) (jw_or1 (jt_cmp op_lt ok_lt (je_ix ix_U ok_ix (je_var 14) je_int (fun _ _ => rfl)) (je_ix ix_U ok_ix (je_var 13) je_int (fun _ _ => rfl)) (nomark _))))) (jss_one (js_set (i := 13) nd (je_var 14))) jss_nil)))
      (jss_one (js_ret (je_var 13))))))))
abbrev s_fewest_exceptions : Stmt := top 7
theorem sc_fewest_exceptions : FnScope N_fewest_exceptions ["known", "promises", "week"] (defScope s_fewest_exceptions) := ⟨rfl, rfl, rfl, by decide +kernel, rfl, by decide +kernel, by decide +kernel⟩
theorem bi_fewest_exceptions {f : Addr} {fd : FuncData} (F : FnP K "fewest_exceptions" "fewest_exceptions" s_fewest_exceptions f fd) : Binds K fd ["known", "promises", "week"] [] := F.bindsN fun _ _ _ _ _ _ us hl => match us, hl with | [_, _, _], _ => rfl
theorem j_fewest_exceptions (T : Tx K mg) {f : Addr} {fd : FuncData} (F : FnP K "fewest_exceptions" "fewest_exceptions" s_fewest_exceptions f fd) (J_nearest : JFn P w K mg base cl 3 "nearest" 3 m_nearest) : JAt P w K mg base cl 4 f 3 m_fewest_exceptions := by
  have nd := sc_fewest_exceptions.nd
  refine fn_ok (N := N_fewest_exceptions) (ps := ["known", "promises", "week"]) (body := b_fewest_exceptions) F (bi_fewest_exceptions F) sc_fewest_exceptions fun cdv A outer s H E hr tk po => ?_
  exact (jss_cons (js_set (i := 3) nd (je_call J_nearest hr (by decide) tk (by rfl) (ja_cons (je_var 0) (ja_cons (je_var 1) (ja_cons (je_var 2) ja_nil)))))
      (jss_one (js_ret (je_ite (jt_cmp op_isntU ok_isnt (je_var 3) je_non (nomark _)) (je_ix ix_U ok_ix (je_var 3) je_int (fun _ _ => rfl)) je_non))))
abbrev s_all_weeks : Stmt := top 8
theorem sc_all_weeks : FnScope N_all_weeks [] (defScope s_all_weeks) := ⟨rfl, rfl, rfl, by decide +kernel, rfl, by decide +kernel, by decide +kernel⟩
theorem bi_all_weeks {f : Addr} {fd : FuncData} (F : FnP K "all_weeks" "all_weeks" s_all_weeks f fd) : Binds K fd [] [] := F.bindsN fun _ _ _ _ _ _ us hl => match us, hl with | [], _ => rfl
theorem j_all_weeks (T : Tx K mg) {f : Addr} {fd : FuncData} (F : FnP K "all_weeks" "all_weeks" s_all_weeks f fd)  : JAt P w K mg base cl 1 f 0 m_all_weeks := by
  have nd := sc_all_weeks.nd
  refine fn_ok (N := N_all_weeks) (ps := []) (body := b_all_weeks) F (bi_all_weeks F) sc_all_weeks fun cdv A outer s H E hr tk po => ?_
  exact (jss_cons (js_set (i := 0) nd (je_lst (ja_cons (je_str []) ja_nil)))
      (jss_cons (js_for po rfl (ji_range1 (by rfl) T.nrange (ja_cons (je_globI T.cWEEK (by rfl)) ja_nil)) (jg_name (i := 1) nd) (jss_one (js_setLc2 (i := 0) rfl nd (sw_true rfl rfl rfl (by decide +kernel)) (ji_any (je_var 0)) (blkOk_by (own := [("week", 2), ("letter", 3)]) (N := N_all_weeks) (sc := (defScope s_all_weeks)) (by decide +kernel)) (fun _ _ _ _ _ => (jc_name (i := 2) nd)) (fun _ _ _ _ _ => jts_nil) (fun _ _ _ _ _ => (ji_any (je_str [102, 119]))) (fun _ _ _ _ _ => (jc_name (i := 3) nd)) (fun _ _ _ _ _ => jts_nil) (fun _ _ _ _ _ => (je_op op_addU ok_add (je_var 2) (je_var 3))))))
      (jss_one (js_ret (je_var 0)))))
abbrev s_best_weeks : Stmt := top 9
theorem sc_best_weeks : FnScope N_best_weeks ["known", "promises"] (defScope s_best_weeks) := ⟨rfl, rfl, rfl, by decide +kernel, rfl, by decide +kernel, by decide +kernel⟩
theorem bi_best_weeks {f : Addr} {fd : FuncData} (F : FnP K "best_weeks" "best_weeks" s_best_weeks f fd) : Binds K fd ["known", "promises"] [] := F.bindsN fun _ _ _ _ _ _ us hl => match us, hl with | [_, _], _ => rfl
theorem j_best_weeks (T : Tx K mg) {f : Addr} {fd : FuncData} (F : FnP K "best_weeks" "best_weeks" s_best_weeks f fd) (J_all_weeks : JFn P w K mg base cl 1 "all_weeks" 0 m_all_weeks) (J_fewest_exceptions : JFn P w K mg base cl 4 "fewest_exceptions" 3 m_fewest_exceptions) : JAt P w K mg base cl 5 f 2 m_best_weeks := by
  have nd := sc_best_weeks.nd
  refine fn_ok (N := N_best_weeks) (ps := ["known", "promises"]) (body := b_best_weeks) F (bi_best_weeks F) sc_best_weeks fun cdv A outer s H E hr tk po => ?_
  exact (jss_cons (js_par (i := 2) (j := 3) rfl nd (by decide) (ja_cons (je_callB call_len ok_len (by rfl) T.nlen bb_len (ja_cons (je_var 0) ja_nil)) (ja_cons (je_own ja_nil) ja_nil)))
      (jss_cons (js_for po rfl (ji_any (je_call0 J_all_weeks hr (by decide) tk (by rfl))) (jg_name (i := 4) nd) (jss_cons (js_set (i := 5) nd (je_call J_fewest_exceptions hr (by decide) tk (by rfl) (ja_cons (je_var 0) (ja_cons (je_var 1) (ja_cons (je_var 4) ja_nil)))))
      (jss_cons (js_if (jt_w (jw_and (jt_cmp op_isntU ok_isnt (je_var 5) je_non (nomark _)) (jw_and1 (jt_cmp op_lt ok_lt (je_var 5) (je_var 2) (nomark _))))) (jss_one (js_par (i := 2) (j := 3) rfl nd (by decide) (ja_cons (je_var 5) (ja_cons (je_own ja_nil) ja_nil)))) jss_nil)
      (jss_one (js_if (jt_cmp (op_eqD hr.units) ok_eq (je_var 5) (je_var 2) (nomark _)) (jss_one (js_expr (je_bm PySem.F.plainAttrs_list PySem.F.slot_list_append PySem.F.type_list_append mt_append ty_own ok_app (je_var 3) (ja_cons (je_var 4) ja_nil)))) jss_nil)))))
      (jss_one (js_ret (je_var 3)))))
abbrev s_law_draw : Stmt := top 11
theorem sc_law_draw : FnScope N_law_draw ["tape", "many"] (defScope s_law_draw) := ⟨rfl, rfl, rfl, by decide +kernel, rfl, by decide +kernel, by decide +kernel⟩
theorem bi_law_draw {f : Addr} {fd : FuncData} (F : FnP K "_law_draw" "_law_draw" s_law_draw f fd) : Binds K fd ["tape", "many"] [] := F.bindsN fun _ _ _ _ _ _ us hl => match us, hl with | [_, _], _ => rfl
theorem j_law_draw (T : Tx K mg) {f : Addr} {fd : FuncData} (F : FnP K "_law_draw" "_law_draw" s_law_draw f fd)  : JAt P w K mg base cl 1 f 2 m_law_draw := by
  have nd := sc_law_draw.nd
  refine fn_ok (N := N_law_draw) (ps := ["tape", "many"]) (body := b_law_draw) F (bi_law_draw F) sc_law_draw fun cdv A outer s H E hr tk po => ?_
  exact (jss_cons (js_set (i := 2) nd je_int)
      (jss_cons (js_if (jt_cmp op_lt ok_lt (je_ix ix_U ok_ix (je_var 0) je_int (fun _ _ => rfl)) (je_var 1) (nomark _)) (jss_cons (js_set (i := 3) nd je_int)
      (jss_cons (js_if (jt_cmp op_gt ok_gt (je_callB call_len ok_len (by rfl) T.nlen bb_len (ja_cons (je_ix ix_U ok_ix (je_var 0) je_int (fun _ _ => rfl)) ja_nil)) je_int (nomark _)) (jss_one (js_set (i := 3) nd (je_ix ix_U ok_ix (je_ix ix_U ok_ix (je_var 0) je_int (fun _ _ => rfl)) (je_op op_mod ok_mod (je_ix ix_U ok_ix (je_var 0) je_int (fun _ _ => rfl)) (je_callB call_len ok_len (by rfl) T.nlen bb_len (ja_cons (je_ix ix_U ok_ix (je_var 0) je_int (fun _ _ => rfl)) ja_nil))) (fun _ _ => rfl)))) jss_nil)
      (jss_cons (js_if (jt_w (jw_or (jt_cmp op_ge ok_ge (je_ix ix_U ok_ix (je_var 0) je_int (fun _ _ => rfl)) (je_callB call_len ok_len (by rfl) T.nlen bb_len (ja_cons (je_ix ix_U ok_ix (je_var 0) je_int (fun _ _ => rfl)) ja_nil)) (nomark _)) (jw_or1 (jt_cmp op_lt ok_lt (je_var 3) (je_op op_pow ok_pow je_int je_int) (nomark _))))) (jss_cons (js_set (i := 3) nd (je_op op_mod ok_mod (je_op op_addU ok_add (je_var 3) (je_op op_mulU ok_mul je_int (je_ix ix_U ok_ix (je_var 0) je_int (fun _ _ => rfl)))) (je_var 2)))
      (jss_cons (js_set (i := 3) nd (je_op op_mod ok_mod (je_op op_addU ok_add (je_op op_addU ok_add (je_op op_mulU ok_mul (je_var 3) (je_var 3)) (je_op op_mulU ok_mul je_int (je_var 3))) je_int) (je_var 2)))
      (jss_one (js_set (i := 3) nd (je_op op_mod ok_mod (je_op op_addU ok_add (je_op op_mulU ok_mul (je_var 3) (je_var 3)) je_int) (je_var 2)))))) jss_nil)
      (jss_cons (js_asg (je_op op_addU ok_add (je_ix ix_U ok_ix (je_var 0) je_int (fun _ _ => rfl)) je_int) (jg_set (cl := cl) (je_var 0) je_int))
      (jss_one (js_asg (je_var 3) (jg_set (cl := cl) (je_var 0) je_int))))))) jss_nil)
      (jss_cons (js_set (i := 4) nd (je_op op_mod ok_mod (je_ix ix_U ok_ix (je_var 0) je_int (fun _ _ => rfl)) (je_var 1)))
      (jss_cons (js_asg (je_op op_fdivW ok_div (je_ix ix_U ok_ix (je_var 0) je_int (fun _ _ => rfl)) (je_var 1)) (jg_set (cl := cl) (je_var 0) je_int))
      (jss_one (js_ret (je_var 4)))))))
abbrev s_law_like : Stmt := top 12
theorem sc_law_like : FnScope N_law_like ["one", "two"] (defScope s_law_like) := ⟨rfl, rfl, rfl, by decide +kernel, rfl, by decide +kernel, by decide +kernel⟩
theorem bi_law_like {f : Addr} {fd : FuncData} (F : FnP K "_law_like" "_law_like" s_law_like f fd) : Binds K fd ["one", "two"] [] := F.bindsN fun _ _ _ _ _ _ us hl => match us, hl with | [_, _], _ => rfl
theorem j_law_like_n (T : Tx K mg) {f : Addr} {fd : FuncData} (F : FnP K "_law_like" "_law_like" s_law_like f fd)  (hm : mg "_law_like" = some (.ref f)) : ∀ n : Nat, JAt P w K mg base cl (1 + n) f 2 (m_law_like_n n)
  | 0 => fn_none F (bi_law_like F) sc_law_like
  | n + 1 => by
    have J_law_like : JFn P w K mg base cl (1 + n) "_law_like" 2 (m_law_like_n n) := ⟨f, hm, j_law_like_n T F  hm n⟩
    have nd := sc_law_like.nd
    refine fn_ok (N := N_law_like) (ps := ["one", "two"]) (body := b_law_like (m_law_like_n n)) F (bi_law_like F) sc_law_like fun cdv A outer s H E hr tk po => ?_
    exact (jss_cons (js_if (jt_val (je_callB call_isiU ok_isi (by rfl) T.nisinstance bb_isinstance (ja_cons (je_var 0) (ja_cons (je_tup (ja_cons (je_ty (by rfl) T.nlist bb_list) (ja_cons (je_ty (by rfl) T.ntuple bb_tuple) ja_nil))) ja_nil)))) (jss_cons (js_if (jt_w (jw_or (jt_cmp (op_neD hr.units) ok_ne (je_callB call_isiU ok_isi (by rfl) T.nisinstance bb_isinstance (ja_cons (je_var 0) (ja_cons (je_ty (by rfl) T.nlist bb_list) ja_nil))) (je_callB call_isiU ok_isi (by rfl) T.nisinstance bb_isinstance (ja_cons (je_var 1) (ja_cons (je_ty (by rfl) T.nlist bb_list) ja_nil))) (nomark _)) (jw_or1 (jt_cmp (op_neD hr.units) ok_ne (je_callB call_isiU ok_isi (by rfl) T.nisinstance bb_isinstance (ja_cons (je_var 0) (ja_cons (je_ty (by rfl) T.ntuple bb_tuple) ja_nil))) (je_callB call_isiU ok_isi (by rfl) T.nisinstance bb_isinstance (ja_cons (je_var 1) (ja_cons (je_ty (by rfl) T.ntuple bb_tuple) ja_nil))) (nomark _))))) (jss_one (js_ret je_bl)) jss_nil)
      (jss_cons (js_if (jt_cmp (op_neD hr.units) ok_ne (je_callB call_len ok_len (by rfl) T.nlen bb_len (ja_cons (je_var 0) ja_nil)) (je_callB call_len ok_len (by rfl) T.nlen bb_len (ja_cons (je_var 1) ja_nil)) (nomark _)) (jss_one (js_ret je_bl)) jss_nil)
      (jss_one (js_ret (je_cmp (op_eqD hr.units) ok_eq (je_lc rfl nd (ji_range1 (by rfl) T.nrange (ja_cons (je_callB call_len ok_len (by rfl) T.nlen bb_len (ja_cons (je_var 0) ja_nil)) ja_nil)) (blkOk_by (own := [("k", 2)]) (N := N_law_like) (sc := (defScope s_law_like)) (by decide +kernel)) (fun _ _ _ _ _ => (jc_name (i := 2) nd)) (fun _ _ _ _ _ => (jts_one (jt_not (jt_val (je_call J_law_like hr (by show _ ≤ 1 + n; omega) takes0 (by rfl) (ja_cons (je_ix ix_U ok_ix (je_var 0) (je_var 2) (fun _ _ => rfl)) (ja_cons (je_ix ix_U ok_ix (je_var 1) (je_var 2) (fun _ _ => rfl)) ja_nil))))))) (fun _ _ _ _ _ => (je_var 2))) (je_lst ja_nil) (nomark _)))))) jss_nil)
      (jss_cons (js_if (jt_val (je_callB call_isiU ok_isi (by rfl) T.nisinstance bb_isinstance (ja_cons (je_var 1) (ja_cons (je_tup (ja_cons (je_ty (by rfl) T.nlist bb_list) (ja_cons (je_ty (by rfl) T.ntuple bb_tuple) ja_nil))) ja_nil)))) (jss_one (js_ret je_bl)) jss_nil)
      (jss_one (js_ret (je_and (je_cmp (op_eqD hr.units) ok_eq (je_callB call_isiU ok_isi (by rfl) T.nisinstance bb_isinstance (ja_cons (je_var 0) (ja_cons (je_ty (by rfl) T.nbool bb_bool) ja_nil))) (je_callB call_isiU ok_isi (by rfl) T.nisinstance bb_isinstance (ja_cons (je_var 1) (ja_cons (je_ty (by rfl) T.nbool bb_bool) ja_nil))) (nomark _)) (je_one (je_cmp (op_eqD hr.units) ok_eq (je_var 0) (je_var 1) (nomark _))))))))
theorem j_law_like (T : Tx K mg) {f : Addr} {fd : FuncData} (F : FnP K "_law_like" "_law_like" s_law_like f fd)  (hm : mg "_law_like" = some (.ref f)) : JAt P w K mg base cl 5 f 2 m_law_like := j_law_like_n T F  hm 4
abbrev s_law_row : Stmt := top 13
theorem sc_law_row : FnScope N_law_row ["tape", "days"] (defScope s_law_row) := ⟨rfl, rfl, rfl, by decide +kernel, rfl, by decide +kernel, by decide +kernel⟩
theorem bi_law_row {f : Addr} {fd : FuncData} (F : FnP K "_law_row" "_law_row" s_law_row f fd) : Binds K fd ["tape", "days"] [] := F.bindsN fun _ _ _ _ _ _ us hl => match us, hl with | [_, _], _ => rfl
theorem j_law_row (T : Tx K mg) {f : Addr} {fd : FuncData} (F : FnP K "_law_row" "_law_row" s_law_row f fd) (J_law_draw : JFn P w K mg base cl 1 "_law_draw" 2 m_law_draw) : JAt P w K mg base cl 2 f 2 m_law_row := by
  have nd := sc_law_row.nd
  refine fn_ok (N := N_law_row) (ps := ["tape", "days"]) (body := b_law_row) F (bi_law_row F) sc_law_row fun cdv A outer s H E hr tk po => ?_
  exact (jss_cons (js_par (i := 2) (j := 3) rfl nd (by decide) (ja_cons (je_ix ix_U ok_ix (je_lst (ja_cons je_int (ja_cons je_int (ja_cons je_int ja_nil)))) (je_call J_law_draw hr (by decide) tk (by rfl) (ja_cons (je_var 0) (ja_cons je_int ja_nil))) (fun _ _ => rfl)) (ja_cons (je_str []) ja_nil)))
      (jss_cons (js_for po rfl (ji_range1 (by rfl) T.nrange (ja_cons (je_var 1) ja_nil)) (jg_name (i := 4) nd) (jss_one (js_set (i := 3) nd (je_op op_addU ok_add (je_var 3) (je_ix ix_U ok_ix (je_str [119, 102]) (je_callTy call_int1 ok_intOf (by rfl) T.nint bb_int (ja_cons (je_cmp (op_eqD hr.units) ok_eq (je_call J_law_draw hr (by decide) tk (by rfl) (ja_cons (je_var 0) (ja_cons (je_op op_addU ok_add (je_var 2) je_int) ja_nil))) je_int (nomark _)) ja_nil)) (fun _ _ => rfl))))))
      (jss_one (js_ret (je_var 3)))))
abbrev s_law_masked : Stmt := top 14
theorem sc_law_masked : FnScope N_law_masked ["tape", "row"] (defScope s_law_masked) := ⟨rfl, rfl, rfl, by decide +kernel, rfl, by decide +kernel, by decide +kernel⟩
theorem bi_law_masked {f : Addr} {fd : FuncData} (F : FnP K "_law_masked" "_law_masked" s_law_masked f fd) : Binds K fd ["tape", "row"] [] := F.bindsN fun _ _ _ _ _ _ us hl => match us, hl with | [_, _], _ => rfl
theorem j_law_masked (T : Tx K mg) {f : Addr} {fd : FuncData} (F : FnP K "_law_masked" "_law_masked" s_law_masked f fd) (J_law_draw : JFn P w K mg base cl 1 "_law_draw" 2 m_law_draw) : JAt P w K mg base cl 2 f 2 m_law_masked := by
  have nd := sc_law_masked.nd
  refine fn_ok (N := N_law_masked) (ps := ["tape", "row"]) (body := b_law_masked) F (bi_law_masked F) sc_law_masked fun cdv A outer s H E hr tk po => ?_
  exact (jss_cons (js_par (i := 2) (j := 3) rfl nd (by decide) (ja_cons (je_op op_addU ok_add je_int (je_call J_law_draw hr (by decide) tk (by rfl) (ja_cons (je_var 0) (ja_cons je_int ja_nil)))) (ja_cons (je_str []) ja_nil)))
      (jss_cons (js_for po rfl (ji_any (je_var 1)) (jg_name (i := 4) nd) (jss_one (js_set (i := 3) nd (je_op op_addU ok_add (je_var 3) (je_ite (jt_cmp (op_eqD hr.units) ok_eq (je_call J_law_draw hr (by decide) tk (by rfl) (ja_cons (je_var 0) (ja_cons (je_op op_addU ok_add (je_var 2) je_int) ja_nil))) je_int (nomark _)) (je_var 4) (je_str [63]))))))
      (jss_one (js_ret (je_var 3)))))
abbrev s_law_due : Stmt := top 15
theorem sc_law_due : FnScope N_law_due ["row", "start", "count"] (defScope s_law_due) := ⟨rfl, rfl, rfl, by decide +kernel, rfl, by decide +kernel, by decide +kernel⟩
theorem bi_law_due {f : Addr} {fd : FuncData} (F : FnP K "_law_due" "_law_due" s_law_due f fd) : Binds K fd ["row", "start", "count"] [] := F.bindsN fun _ _ _ _ _ _ us hl => match us, hl with | [_, _, _], _ => rfl
theorem j_law_due (T : Tx K mg) {f : Addr} {fd : FuncData} (F : FnP K "_law_due" "_law_due" s_law_due f fd)  : JAt P w K mg base cl 1 f 3 m_law_due := by
  have nd := sc_law_due.nd
  refine fn_ok (N := N_law_due) (ps := ["row", "start", "count"]) (body := b_law_due) F (bi_law_due F) sc_law_due fun cdv A outer s H E hr tk po => ?_
  exact (jss_cons (js_setLc (i := 3) rfl nd (sw_true rfl rfl rfl (by decide +kernel)) (ji_range2 (by rfl) T.nrange (ja_cons (je_op op_addU ok_add (je_var 1) je_int) (ja_cons (je_callB call_len ok_len (by rfl) T.nlen bb_len (ja_cons (je_var 0) ja_nil)) ja_nil))) (blkOk_by (own := [("day", 4)]) (N := N_law_due) (sc := (defScope s_law_due)) (by decide +kernel)) (fun _ _ _ _ _ => (jc_name (i := 4) nd)) (fun _ _ _ _ _ => (jts_one (jt_cmp (op_eqD hr.units) ok_eq (je_ix ix_U ok_ix (je_var 0) (je_var 4) (fun _ _ => rfl)) (je_str [119]) (nomark _)))) (fun _ _ _ _ _ => (je_var 4)))
      (jss_one (js_ret (je_ite (jt_cmp op_le ok_le (je_var 2) (je_callB call_len ok_len (by rfl) T.nlen bb_len (ja_cons (je_var 3) ja_nil)) (nomark _)) (je_ix ix_U ok_ix (je_var 3) (je_op op_sub ok_sub (je_var 2) je_int) (fun _ _ => rfl)) (je_callB call_len ok_len (by rfl) T.nlen bb_len (ja_cons (je_var 0) ja_nil))))))
abbrev s_law_keeps : Stmt := top 16
theorem sc_law_keeps : FnScope N_law_keeps ["row", "promise"] (defScope s_law_keeps) := ⟨rfl, rfl, rfl, by decide +kernel, rfl, by decide +kernel, by decide +kernel⟩
theorem bi_law_keeps {f : Addr} {fd : FuncData} (F : FnP K "_law_keeps" "_law_keeps" s_law_keeps f fd) : Binds K fd ["row", "promise"] [] := F.bindsN fun _ _ _ _ _ _ us hl => match us, hl with | [_, _], _ => rfl
theorem j_law_keeps (T : Tx K mg) {f : Addr} {fd : FuncData} (F : FnP K "_law_keeps" "_law_keeps" s_law_keeps f fd) (J_law_due : JFn P w K mg base cl 1 "_law_due" 3 m_law_due) : JAt P w K mg base cl 2 f 2 m_law_keeps := by
  have nd := sc_law_keeps.nd
  refine fn_ok (N := N_law_keeps) (ps := ["row", "promise"]) (body := b_law_keeps) F (bi_law_keeps F) sc_law_keeps fun cdv A outer s H E hr tk po => ?_
  exact (jss_cons (js_asg (je_var 1) (jg_tup rfl (jgs_cons (jg_name (i := 2) nd) (jgs_cons (jg_name (i := 3) nd) (jgs_cons (jg_name (i := 4) nd) (jgs_cons (jg_name (i := 5) nd) jgs_nil))))))
      (jss_cons (js_set (i := 6) nd (je_call J_law_due hr (by decide) tk (by rfl) (ja_cons (je_var 0) (ja_cons (je_var 3) (ja_cons (je_var 4) ja_nil)))))
      (jss_one (js_ret (je_or (je_cmp (op_eqD hr.units) ok_eq (je_var 6) (je_var 5) (nomark _)) (je_or (je_and (je_cmp (op_eqD hr.units) ok_eq (je_var 2) (je_str [98, 121]) (nomark _)) (je_one (je_cmp op_lt ok_lt (je_var 6) (je_var 5) (nomark _)))) (je_one (je_and (je_cmp (op_eqD hr.units) ok_eq (je_var 2) (je_str [102, 114, 111, 109]) (nomark _)) (je_one (je_cmp op_gt ok_gt (je_var 6) (je_var 5) (nomark _)))))))))))
abbrev s_law_promise : Stmt := top 17
theorem sc_law_promise : FnScope N_law_promise ["tape", "row"] (defScope s_law_promise) := ⟨rfl, rfl, rfl, by decide +kernel, rfl, by decide +kernel, by decide +kernel⟩
theorem bi_law_promise {f : Addr} {fd : FuncData} (F : FnP K "_law_promise" "_law_promise" s_law_promise f fd) : Binds K fd ["tape", "row"] [] := F.bindsN fun _ _ _ _ _ _ us hl => match us, hl with | [_, _], _ => rfl
theorem j_law_promise (T : Tx K mg) {f : Addr} {fd : FuncData} (F : FnP K "_law_promise" "_law_promise" s_law_promise f fd) (J_law_draw : JFn P w K mg base cl 1 "_law_draw" 2 m_law_draw) (J_law_due : JFn P w K mg base cl 1 "_law_due" 3 m_law_due) : JAt P w K mg base cl 2 f 2 m_law_promise := by
  have nd := sc_law_promise.nd
  refine fn_ok (N := N_law_promise) (ps := ["tape", "row"]) (body := b_law_promise) F (bi_law_promise F) sc_law_promise fun cdv A outer s H E hr tk po => ?_
  exact (jss_cons (js_set (i := 2) nd (je_callB call_len ok_len (by rfl) T.nlen bb_len (ja_cons (je_var 1) ja_nil)))
      (jss_cons (js_set (i := 3) nd (je_op op_sub ok_sub (je_call J_law_draw hr (by decide) tk (by rfl) (ja_cons (je_var 0) (ja_cons (je_var 2) ja_nil))) je_int))
      (jss_cons (js_set (i := 4) nd (je_ix ix_U ok_ix (je_lst (ja_cons (je_str [111, 110]) (ja_cons (je_str [111, 110]) (ja_cons (je_str [98, 121]) (ja_cons (je_str [102, 114, 111, 109]) ja_nil))))) (je_call J_law_draw hr (by decide) tk (by rfl) (ja_cons (je_var 0) (ja_cons je_int ja_nil))) (fun _ _ => rfl)))
      (jss_cons (js_set (i := 5) nd (je_op op_addU ok_add je_int (je_call J_law_draw hr (by decide) tk (by rfl) (ja_cons (je_var 0) (ja_cons (je_callB (call_minU rfl) ok_min (by rfl) T.nmin bb_min (ja_cons (je_var 2) (ja_cons je_int ja_nil))) ja_nil)))))
      (jss_cons (js_set (i := 6) nd (je_call J_law_due hr (by decide) tk (by rfl) (ja_cons (je_var 1) (ja_cons (je_var 3) (ja_cons (je_var 5) ja_nil)))))
      (jss_cons (js_set (i := 7) nd (je_op op_addU ok_add (je_op op_addU ok_add (je_var 3) je_int) (je_call J_law_draw hr (by decide) tk (by rfl) (ja_cons (je_var 0) (ja_cons (je_op op_sub ok_sub (je_op op_sub ok_sub (je_var 2) je_int) (je_var 3)) ja_nil)))))
      (jss_cons (js_if (jt_cmp op_gt ok_gt (je_call J_law_draw hr (by decide) tk (by rfl) (ja_cons (je_var 0) (ja_cons je_int ja_nil))) je_int (nomark _)) (jss_cons (js_if (jt_w (jw_and (jt_cmp (op_eqD hr.units) ok_eq (je_var 4) (je_str [111, 110]) (nomark _)) (jw_and1 (jt_cmp op_lt ok_lt (je_var 6) (je_var 2) (nomark _))))) (jss_one (js_set (i := 7) nd (je_var 6))) jss_nil)
      (jss_cons (js_if (jt_w (jw_and (jt_cmp (op_eqD hr.units) ok_eq (je_var 4) (je_str [98, 121]) (nomark _)) (jw_and1 (jt_cmp op_lt ok_lt (je_var 6) (je_var 2) (nomark _))))) (jss_one (js_set (i := 7) nd (je_op op_addU ok_add (je_var 6) (je_call J_law_draw hr (by decide) tk (by rfl) (ja_cons (je_var 0) (ja_cons (je_op op_sub ok_sub (je_var 2) (je_var 6)) ja_nil)))))) jss_nil)
      (jss_one (js_if (jt_cmp (op_eqD hr.units) ok_eq (je_var 4) (je_str [102, 114, 111, 109]) (nomark _)) (jss_one (js_set (i := 7) nd (je_op op_addU ok_add (je_op op_addU ok_add (je_var 3) je_int) (je_call J_law_draw hr (by decide) tk (by rfl) (ja_cons (je_var 0) (ja_cons (je_op op_sub ok_sub (je_callB (call_minU rfl) ok_min (by rfl) T.nmin bb_min (ja_cons (je_var 6) (ja_cons (je_op op_sub ok_sub (je_var 2) je_int) ja_nil))) (je_var 3)) ja_nil)))))) jss_nil)))) jss_nil)
      (jss_one (js_ret (je_tup (ja_cons (je_var 4) (ja_cons (je_var 3) (ja_cons (je_var 5) (ja_cons (je_var 7) ja_nil))))))))))))))
abbrev s_law_promises : Stmt := top 18
theorem sc_law_promises : FnScope N_law_promises ["tape", "row", "most"] (defScope s_law_promises) := ⟨rfl, rfl, rfl, by decide +kernel, rfl, by decide +kernel, by decide +kernel⟩
theorem bi_law_promises {f : Addr} {fd : FuncData} (F : FnP K "_law_promises" "_law_promises" s_law_promises f fd) : Binds K fd ["tape", "row", "most"] [] := F.bindsN fun _ _ _ _ _ _ us hl => match us, hl with | [_, _, _], _ => rfl
theorem j_law_promises (T : Tx K mg) {f : Addr} {fd : FuncData} (F : FnP K "_law_promises" "_law_promises" s_law_promises f fd) (J_law_draw : JFn P w K mg base cl 1 "_law_draw" 2 m_law_draw) (J_law_promise : JFn P w K mg base cl 2 "_law_promise" 2 m_law_promise) : JAt P w K mg base cl 3 f 3 m_law_promises := by
  have nd := sc_law_promises.nd
  refine fn_ok (N := N_law_promises) (ps := ["tape", "row", "most"]) (body := b_law_promises) F (bi_law_promises F) sc_law_promises fun cdv A outer s H E hr tk po => ?_
  exact (jss_cons (js_set (i := 3) nd (je_tup ja_nil))
      (jss_cons (js_for po rfl (ji_range1 (by rfl) T.nrange (ja_cons (je_call J_law_draw hr (by decide) tk (by rfl) (ja_cons (je_var 0) (ja_cons (je_op op_addU ok_add (je_var 2) je_int) ja_nil))) ja_nil)) (jg_name (i := 4) nd) (jss_one (js_set (i := 3) nd (je_op op_addU ok_add (je_var 3) (je_tup (ja_cons (je_call J_law_promise hr (by decide) tk (by rfl) (ja_cons (je_var 0) (ja_cons (je_var 1) ja_nil))) ja_nil))))))
      (jss_one (js_ret (je_var 3)))))
abbrev s_law_fits : Stmt := top 19
theorem sc_law_fits : FnScope N_law_fits ["row", "known", "promises"] (defScope s_law_fits) := ⟨rfl, rfl, rfl, by decide +kernel, rfl, by decide +kernel, by decide +kernel⟩
theorem bi_law_fits {f : Addr} {fd : FuncData} (F : FnP K "_law_fits" "_law_fits" s_law_fits f fd) : Binds K fd ["row", "known", "promises"] [] := F.bindsN fun _ _ _ _ _ _ us hl => match us, hl with | [_, _, _], _ => rfl
theorem j_law_fits (T : Tx K mg) {f : Addr} {fd : FuncData} (F : FnP K "_law_fits" "_law_fits" s_law_fits f fd) (J_law_keeps : JFn P w K mg base cl 2 "_law_keeps" 2 m_law_keeps) : JAt P w K mg base cl 3 f 3 m_law_fits := by
  have nd := sc_law_fits.nd
  refine fn_ok (N := N_law_fits) (ps := ["row", "known", "promises"]) (body := b_law_fits) F (bi_law_fits F) sc_law_fits fun cdv A outer s H E hr tk po => ?_
  exact (jss_cons (js_if (jt_cmp (op_neD hr.units) ok_ne (je_lc rfl nd (ji_zip (by rfl) T.nzip (ja_cons (je_var 0) (ja_cons (je_var 1) ja_nil))) (blkOk_by (own := [("letter", 3), ("other", 4)]) (N := N_law_fits) (sc := (defScope s_law_fits)) (by decide +kernel)) (fun _ _ _ _ _ => (jc_tup rfl (jcs_cons (jc_name (i := 3) nd) (jcs_cons (jc_name (i := 4) nd) jcs_nil)))) (fun _ _ _ _ _ => (jts_one (jt_cmp (op_ninU (un65 hr)) ok_nin (je_var 4) (je_tup (ja_cons (je_var 3) (ja_cons (je_str [63]) ja_nil))) (by rfl)))) (fun _ _ _ _ _ => je_int)) (je_lst ja_nil) (nomark _)) (jss_one (js_ret je_bl)) jss_nil)
      (jss_one (js_ret (je_cmp (op_eqD hr.units) ok_eq (je_lc rfl nd (ji_any (je_var 2)) (blkOk_by (own := [("promise", 5)]) (N := N_law_fits) (sc := (defScope s_law_fits)) (by decide +kernel)) (fun _ _ _ _ _ => (jc_name (i := 5) nd)) (fun _ _ _ _ _ => (jts_one (jt_not (jt_val (je_call J_law_keeps hr (by decide) takes0 (by rfl) (ja_cons (je_var 0) (ja_cons (je_var 5) ja_nil))))))) (fun _ _ _ _ _ => (je_var 5))) (je_lst ja_nil) (nomark _)))))
abbrev s_law_rows : Stmt := top 20
theorem sc_law_rows : FnScope N_law_rows ["known", "promises"] (defScope s_law_rows) := ⟨rfl, rfl, rfl, by decide +kernel, rfl, by decide +kernel, by decide +kernel⟩
theorem bi_law_rows {f : Addr} {fd : FuncData} (F : FnP K "_law_rows" "_law_rows" s_law_rows f fd) : Binds K fd ["known", "promises"] [] := F.bindsN fun _ _ _ _ _ _ us hl => match us, hl with | [_, _], _ => rfl
theorem j_law_rows (T : Tx K mg) {f : Addr} {fd : FuncData} (F : FnP K "_law_rows" "_law_rows" s_law_rows f fd) (J_law_fits : JFn P w K mg base cl 3 "_law_fits" 3 m_law_fits) : JAt P w K mg base cl 4 f 2 m_law_rows := by
  have nd := sc_law_rows.nd
  refine fn_ok (N := N_law_rows) (ps := ["known", "promises"]) (body := b_law_rows) F (bi_law_rows F) sc_law_rows fun cdv A outer s H E hr tk po => ?_
  exact (jss_cons (js_set (i := 2) nd (je_lst (ja_cons (je_str []) ja_nil)))
      (jss_cons (js_for po rfl (ji_any (je_var 0)) (jg_name (i := 3) nd) (jss_cons (js_set (i := 4) nd (je_lst ja_nil))
      (jss_cons (js_for po rfl (ji_any (je_var 2)) (jg_name (i := 5) nd) (jss_one (js_set (i := 4) nd (je_op op_addU ok_add (je_var 4) (je_lc rfl nd (ji_any (je_str [102, 119])) (blkOk_by (own := [("own", 6)]) (N := N_law_rows) (sc := (defScope s_law_rows)) (by decide +kernel)) (fun _ _ _ _ _ => (jc_name (i := 6) nd)) (fun _ _ _ _ _ => (jts_one (jt_cmp (op_inU (un65 hr)) ok_in (je_var 3) (je_tup (ja_cons (je_var 6) (ja_cons (je_str [63]) ja_nil))) (by rfl)))) (fun _ _ _ _ _ => (je_op op_addU ok_add (je_var 5) (je_var 6))))))))
      (jss_one (js_set (i := 2) nd (je_var 4))))))
      (jss_one (js_ret (je_lc rfl nd (ji_any (je_var 2)) (blkOk_by (own := [("row", 5)]) (N := N_law_rows) (sc := (defScope s_law_rows)) (by decide +kernel)) (fun _ _ _ _ _ => (jc_name (i := 5) nd)) (fun _ _ _ _ _ => (jts_one (jt_val (je_call J_law_fits hr (by decide) takes0 (by rfl) (ja_cons (je_var 5) (ja_cons (je_var 0) (ja_cons (je_var 1) ja_nil))))))) (fun _ _ _ _ _ => (je_var 5)))))))
abbrev s_law_few : Stmt := top 21
theorem sc_law_few : FnScope N_law_few ["row"] (defScope s_law_few) := ⟨rfl, rfl, rfl, by decide +kernel, rfl, by decide +kernel, by decide +kernel⟩
theorem bi_law_few {f : Addr} {fd : FuncData} (F : FnP K "_law_few" "_law_few" s_law_few f fd) : Binds K fd ["row"] [] := F.bindsN fun _ _ _ _ _ _ us hl => match us, hl with | [_], _ => rfl
theorem j_law_few (T : Tx K mg) {f : Addr} {fd : FuncData} (F : FnP K "_law_few" "_law_few" s_law_few f fd)  : JAt P w K mg base cl 1 f 1 m_law_few := by
  have nd := sc_law_few.nd
  refine fn_ok (N := N_law_few) (ps := ["row"]) (body := b_law_few) F (bi_law_few F) sc_law_few fun cdv A outer s H E hr tk po => ?_
  exact (jss_cons (js_par (i := 1) (j := 2) rfl nd (by decide) (ja_cons (je_lst (ja_cons (je_str []) ja_nil)) (ja_cons je_int ja_nil)))
      (jss_cons (js_for po rfl (ji_range1 (by rfl) T.nrange (ja_cons je_int ja_nil)) (jg_name (i := 3) nd) (jss_cons (js_set (i := 4) nd (je_lc rfl nd (ji_range3 (by rfl) T.nrange (ja_cons (je_var 3) (ja_cons (je_callB call_len ok_len (by rfl) T.nlen bb_len (ja_cons (je_var 0) ja_nil)) (ja_cons je_int ja_nil)))) (blkOk_by (own := [("day", 9)]) (N := N_law_few) (sc := (defScope s_law_few)) (by decide +kernel)) (fun _ _ _ _ _ => (jc_name (i := 9) nd)) (fun _ _ _ _ _ => jts_nil) (fun _ _ _ _ _ => (je_ix ix_U ok_ix (je_var 0) (je_var 9) (fun _ _ => rfl)))))
      (jss_cons (js_set (i := 5) nd (je_bm PySem.F.plainAttrs_list PySem.F.slot_list_count PySem.F.type_list_count mt_lcountS ty_lst ok_lcount (je_var 4) (ja_cons (je_str [102]) ja_nil)))
      (jss_cons (js_set (i := 2) nd (je_op op_addU ok_add (je_var 2) (je_callB (call_minU rfl) ok_min (by rfl) T.nmin bb_min (ja_cons (je_var 5) (ja_cons (je_op op_sub ok_sub (je_callB call_len ok_len (by rfl) T.nlen bb_len (ja_cons (je_var 4) ja_nil)) (je_var 5)) ja_nil)))))
      (jss_cons (js_setLc (i := 6) rfl nd (sw_true rfl rfl rfl (by decide +kernel)) (ji_any (je_str [102, 119])) (blkOk_by (own := [("letter", 10)]) (N := N_law_few) (sc := (defScope s_law_few)) (by decide +kernel)) (fun _ _ _ _ _ => (jc_name (i := 10) nd)) (fun _ _ _ _ _ => (jts_one (jt_cmp op_ge ok_ge (je_op op_mulU ok_mul (je_bm PySem.F.plainAttrs_list PySem.F.slot_list_count PySem.F.type_list_count mt_lcountS ty_lst ok_lcount (je_var 4) (ja_cons (je_var 10) ja_nil)) je_int) (je_callB call_len ok_len (by rfl) T.nlen bb_len (ja_cons (je_var 4) ja_nil)) (nomark _)))) (fun _ _ _ _ _ => (je_var 10)))
      (jss_cons (js_set (i := 7) nd (je_lst ja_nil))
      (jss_cons (js_for po rfl (ji_any (je_var 1)) (jg_name (i := 8) nd) (jss_one (js_set (i := 7) nd (je_op op_addU ok_add (je_var 7) (je_lc rfl nd (ji_any (je_var 6)) (blkOk_by (own := [("letter", 10)]) (N := N_law_few) (sc := (defScope s_law_few)) (by decide +kernel)) (fun _ _ _ _ _ => (jc_name (i := 10) nd)) (fun _ _ _ _ _ => jts_nil) (fun _ _ _ _ _ => (je_op op_addU ok_add (je_var 8) (je_var 10))))))))
      (jss_one (js_set (i := 1) nd (je_var 7))))))))))
      (jss_one (js_ret (je_tup (ja_cons (je_var 2) (ja_cons (je_var 1) ja_nil)))))))
abbrev s_law_k13 : Stmt := top 22
theorem sc_law_k13 : FnScope N_law_k13 ["script"] (defScope s_law_k13) := ⟨rfl, rfl, rfl, by decide +kernel, rfl, by decide +kernel, by decide +kernel⟩
theorem bi_law_k13 {f : Addr} {fd : FuncData} (F : FnP K "law" "law" s_law_k13 f fd) : Binds K fd ["script"] [] := F.bindsN fun _ _ _ _ _ _ us hl => match us, hl with | [_], _ => rfl
theorem j_law_k13 (T : Tx K mg) {f : Addr} {fd : FuncData} (F : FnP K "law" "law" s_law_k13 f fd) (J_law_draw : JFn P w K mg base cl 1 "_law_draw" 2 m_law_draw) (J_law_row : JFn P w K mg base cl 2 "_law_row" 2 m_law_row) (J_law_masked : JFn P w K mg base cl 2 "_law_masked" 2 m_law_masked) (J_law_promises : JFn P w K mg base cl 3 "_law_promises" 3 m_law_promises) (J_law_rows : JFn P w K mg base cl 4 "_law_rows" 2 m_law_rows) (J_law_few : JFn P w K mg base cl 1 "_law_few" 1 m_law_few) (J_best_weeks : JFn P w K mg base cl 5 "best_weeks" 2 m_best_weeks) (J_law_like : JFn P w K mg base cl 5 "_law_like" 2 m_law_like) (J_fewest_exceptions : JFn P w K mg base cl 4 "fewest_exceptions" 3 m_fewest_exceptions) : FnOk P w K mg base (L2.CX P w) 6 f fd ["script"] (SpF K cl 1 m_law_k13) := by
  have nd := sc_law_k13.nd
  refine fn_fo (N := N_law_k13) (ps := ["script"]) (body := b_law_k13) F sc_law_k13 fun cdv A outer s H E hr tk po => ?_
  exact (jss_cons (js_set (i := 1) nd (je_own (ja_cons (je_callTy call_list_of ok_list (by rfl) T.nlist bb_list (ja_cons (je_var 0) ja_nil)) (ja_cons je_int (ja_cons je_int ja_nil)))))
      (jss_cons (js_for po rfl (ji_any (je_tup (ja_cons je_int ja_nil))) (jg_name (i := 2) nd) (jss_cons (js_set (i := 3) nd (je_call J_law_row hr (by decide) tk (by rfl) (ja_cons (je_var 1) (ja_cons (je_op op_addU ok_add je_int (je_call J_law_draw hr (by decide) tk (by rfl) (ja_cons (je_var 1) (ja_cons je_int ja_nil)))) ja_nil))))
      (jss_cons (js_set (i := 4) nd (je_call J_law_masked hr (by decide) tk (by rfl) (ja_cons (je_var 1) (ja_cons (je_var 3) ja_nil))))
      (jss_cons (js_set (i := 5) nd (je_call J_law_promises hr (by decide) tk (by rfl) (ja_cons (je_var 1) (ja_cons (je_var 3) (ja_cons je_int ja_nil)))))
      (jss_cons (js_set (i := 6) nd (je_call J_law_rows hr (by decide) tk (by rfl) (ja_cons (je_var 4) (ja_cons (je_var 5) ja_nil))))
      (jss_cons (js_setLc (i := 7) rfl nd (sw_true rfl rfl rfl (by decide +kernel)) (ji_any (je_var 6)) (blkOk_by (own := [("own", 14)]) (N := N_law_k13) (sc := (defScope s_law_k13)) (by decide +kernel)) (fun _ _ _ _ _ => (jc_name (i := 14) nd)) (fun _ _ _ _ _ => jts_nil) (fun _ _ _ _ _ => (je_call J_law_few hr (by decide) takes0 (by rfl) (ja_cons (je_var 14) ja_nil))))
      (jss_cons (js_par (i := 8) (j := 9) rfl nd (by decide) (ja_cons (je_lst ja_nil) (ja_cons je_non ja_nil)))
      (jss_cons (js_if (jt_cmp (op_neD hr.units) ok_ne (je_var 7) (je_lst ja_nil) (nomark _)) (jss_cons (js_set (i := 9) nd (je_callB (call_minU rfl) ok_min (by rfl) T.nmin bb_min (ja_cons (je_lc rfl nd (ji_any (je_var 7)) (blkOk_by (own := [("part", 15)]) (N := N_law_k13) (sc := (defScope s_law_k13)) (by decide +kernel)) (fun _ _ _ _ _ => (jc_name (i := 15) nd)) (fun _ _ _ _ _ => jts_nil) (fun _ _ _ _ _ => (je_ix ix_U ok_ix (je_var 15) je_int (fun _ _ => rfl)))) ja_nil)))
      (jss_one (js_for po rfl (ji_any (je_var 7)) (jg_tup rfl (jgs_cons (jg_name (i := 10) nd) (jgs_cons (jg_name (i := 11) nd) jgs_nil))) (jss_one (js_set (i := 8) nd (je_op op_addU ok_add (je_var 8) (je_ite (jt_cmp (op_eqD hr.units) ok_eq (je_var 10) (je_var 9) (nomark _)) (je_var 11) (je_lst ja_nil)))))))) jss_nil)
      (jss_cons (js_set (i := 12) nd (je_call J_best_weeks hr (by decide) tk (by rfl) (ja_cons (je_var 4) (ja_cons (je_var 5) ja_nil))))
      (jss_cons (js_if (jt_not (jt_val (je_call J_law_like hr (by decide) tk (by rfl) (ja_cons (je_var 12) (ja_cons (je_ss (by rfl) T.nsorted (by rfl) T.nset (je_var 8)) ja_nil))))) (jss_one (js_ret je_bl)) jss_nil)
      (jss_one (js_for po rfl (ji_any (je_sl sl_U ok_sl (je_var 12) jo_none (jo_some je_int))) (jg_name (i := 13) nd) (jss_one (js_if (jt_cmp (op_neD hr.units) ok_ne (je_call J_fewest_exceptions hr (by decide) tk (by rfl) (ja_cons (je_var 4) (ja_cons (je_var 5) (ja_cons (je_var 13) ja_nil)))) (je_var 9) (nomark _)) (jss_one (js_ret je_bl)) jss_nil))))))))))))))
      (jss_one (js_ret (je_and (je_cmp (op_eqD hr.units) ok_eq (je_call J_best_weeks hr (by decide) tk (by rfl) (ja_cons (je_str [102]) (ja_cons (je_tup (ja_cons (je_tup (ja_cons (je_str [98, 121]) (ja_cons (je_un un_neg ok_neg je_int) (ja_cons je_int (ja_cons je_int ja_nil))))) ja_nil)) ja_nil))) (je_lst ja_nil) (nomark _)) (je_one (je_cmp (op_eqD hr.units) ok_eq (je_call J_best_weeks hr (by decide) tk (by rfl) (ja_cons (je_op op_mulU ok_mul (je_str [119, 119, 119, 119, 119, 102, 102]) je_int) (ja_cons (je_tup ja_nil) ja_nil))) (je_lst (ja_cons (je_str [119, 119, 119, 119, 119, 102, 102]) ja_nil)) (nomark _))))))))
end
def dd_started : He.DefD := ⟨("started", none), "started", "started", defArgs s_started, defBody s_started, defScope s_started, [], []⟩
def dd_ended : He.DefD := ⟨("ended", none), "ended", "ended", defArgs s_ended, defBody s_ended, defScope s_ended, [], []⟩
def dd_TableD__initD_ : He.DefD := ⟨("Table", some "__init__"), "__init__", "Table.__init__", defArgs s_TableD__initD_, defBody s_TableD__initD_, defScope s_TableD__initD_, [], []⟩
def dd_Table_steps : He.DefD := ⟨("Table", some "steps"), "steps", "Table.steps", defArgs s_Table_steps, defBody s_Table_steps, defScope s_Table_steps, [], []⟩
def dd_nearest : He.DefD := ⟨("nearest", none), "nearest", "nearest", defArgs s_nearest, defBody s_nearest, defScope s_nearest, [], []⟩
def dd_fewest_exceptions : He.DefD := ⟨("fewest_exceptions", none), "fewest_exceptions", "fewest_exceptions", defArgs s_fewest_exceptions, defBody s_fewest_exceptions, defScope s_fewest_exceptions, [], []⟩
def dd_all_weeks : He.DefD := ⟨("all_weeks", none), "all_weeks", "all_weeks", defArgs s_all_weeks, defBody s_all_weeks, defScope s_all_weeks, [], []⟩
def dd_best_weeks : He.DefD := ⟨("best_weeks", none), "best_weeks", "best_weeks", defArgs s_best_weeks, defBody s_best_weeks, defScope s_best_weeks, [], []⟩
def dd_law_draw : He.DefD := ⟨("_law_draw", none), "_law_draw", "_law_draw", defArgs s_law_draw, defBody s_law_draw, defScope s_law_draw, [], []⟩
def dd_law_like : He.DefD := ⟨("_law_like", none), "_law_like", "_law_like", defArgs s_law_like, defBody s_law_like, defScope s_law_like, [], []⟩
def dd_law_row : He.DefD := ⟨("_law_row", none), "_law_row", "_law_row", defArgs s_law_row, defBody s_law_row, defScope s_law_row, [], []⟩
def dd_law_masked : He.DefD := ⟨("_law_masked", none), "_law_masked", "_law_masked", defArgs s_law_masked, defBody s_law_masked, defScope s_law_masked, [], []⟩
def dd_law_due : He.DefD := ⟨("_law_due", none), "_law_due", "_law_due", defArgs s_law_due, defBody s_law_due, defScope s_law_due, [], []⟩
def dd_law_keeps : He.DefD := ⟨("_law_keeps", none), "_law_keeps", "_law_keeps", defArgs s_law_keeps, defBody s_law_keeps, defScope s_law_keeps, [], []⟩
def dd_law_promise : He.DefD := ⟨("_law_promise", none), "_law_promise", "_law_promise", defArgs s_law_promise, defBody s_law_promise, defScope s_law_promise, [], []⟩
def dd_law_promises : He.DefD := ⟨("_law_promises", none), "_law_promises", "_law_promises", defArgs s_law_promises, defBody s_law_promises, defScope s_law_promises, [], []⟩
def dd_law_fits : He.DefD := ⟨("_law_fits", none), "_law_fits", "_law_fits", defArgs s_law_fits, defBody s_law_fits, defScope s_law_fits, [], []⟩
def dd_law_rows : He.DefD := ⟨("_law_rows", none), "_law_rows", "_law_rows", defArgs s_law_rows, defBody s_law_rows, defScope s_law_rows, [], []⟩
def dd_law_few : He.DefD := ⟨("_law_few", none), "_law_few", "_law_few", defArgs s_law_few, defBody s_law_few, defScope s_law_few, [], []⟩
def dd_law_k13 : He.DefD := ⟨("law", none), "law", "law", defArgs s_law_k13, defBody s_law_k13, defScope s_law_k13, [], []⟩
def fn : List He.DefD := [dd_started, dd_ended, dd_TableD__initD_, dd_Table_steps, dd_nearest, dd_fewest_exceptions, dd_all_weeks, dd_best_weeks, dd_law_draw, dd_law_like, dd_law_row, dd_law_masked, dd_law_due, dd_law_keeps, dd_law_promise, dd_law_promises, dd_law_fits, dd_law_rows, dd_law_few, dd_law_k13]
def tb : TbD := []
def fa : List He.Fa := [.glo "started", .glo "ended", .glo "nearest", .glo "fewest_exceptions", .glo "all_weeks", .glo "best_weeks", .glo "_law_draw", .glo "_law_like", .glo "_law_row", .glo "_law_masked", .glo "_law_due", .glo "_law_keeps", .glo "_law_promise", .glo "_law_promises", .glo "_law_fits", .glo "_law_rows", .glo "_law_few", .glo "law", .free "zip", .free "tuple", .free "int", .free "max", .free "len", .free "range", .free "list", .free "isinstance", .free "bool", .free "min", .free "sorted", .free "set", .int "WEEK" 7, .cls "Table", .noat "Table" "letters", .noat "Table" "asked", .noat "Table" "ways", .meth "Table" "steps", .glo "Table", .mkr "Table"]
abbrev R : PySem.W.OpenRow := PySem.W.OpenLaw.row PySem.Challenge.rw_workdaylogs_k13_whole_best_weeks
abbrev hk : PySem.W.Hook := hookT 5 fa fn tb
def ob (s : PySem.W.SharedT) : He.AlD × Bool := obsTG 5 fa fn tb (HandSHeadRun.getT s)
theorem ob_eq (s : PySem.W.SharedT) : ob s = hk.obs s.abs := obsTG_eq (HandSHeadRun.getT_eq s)
def loose : List Str := ["started", "ended", "Table", "WEEK", "nearest", "fewest_exceptions", "all_weeks", "best_weeks", "_law_draw", "_law_like", "_law_row", "_law_masked", "_law_due", "_law_keeps", "_law_promise", "_law_promises", "_law_fits", "_law_rows", "_law_few"]
theorem run (w : World) : HandSHeadRun.RunEq R (PySem.W.view R.prog [22]) hk ob 12000 loose w := by
  intro os
  kernel_rfl
def clN : Nat → Value := fun _ => .none
theorem facts {P : Program} {w : World} {K : PySem.W.Frag} {h : Heap} {mg : Str → Option Value} {f : Addr} (X : K.In h) (G : h.Ns mainGlobals mg) (hfa : mg ("law" : Str) = some (.ref f)) (c0 : SaysT fa fn tb K) :
    ∃ fd : FuncData, (∀ (s : Shared) (v : Value), BindsTo s fd ⟨[v], []⟩ [("script", v)]) ∧ ∀ base : Heap, K.In base → base.Ns mainGlobals mg → FnOk P w K mg base (L2.CX P w) 6 f fd ["script"] (SpF K clN 1 m_law_k13) := by
  have c := c0.d
  obtain ⟨fd_started, F_started⟩ := c.def_ 0 (d := dd_started) rfl
  obtain ⟨fd_ended, F_ended⟩ := c.def_ 1 (d := dd_ended) rfl
  obtain ⟨fd_TableD__initD_, F_TableD__initD_⟩ := c.def_ 2 (d := dd_TableD__initD_) rfl
  obtain ⟨fd_Table_steps, F_Table_steps⟩ := c.def_ 3 (d := dd_Table_steps) rfl
  obtain ⟨fd_nearest, F_nearest⟩ := c.def_ 4 (d := dd_nearest) rfl
  obtain ⟨fd_fewest_exceptions, F_fewest_exceptions⟩ := c.def_ 5 (d := dd_fewest_exceptions) rfl
  obtain ⟨fd_all_weeks, F_all_weeks⟩ := c.def_ 6 (d := dd_all_weeks) rfl
  obtain ⟨fd_best_weeks, F_best_weeks⟩ := c.def_ 7 (d := dd_best_weeks) rfl
  obtain ⟨fd_law_draw, F_law_draw⟩ := c.def_ 8 (d := dd_law_draw) rfl
  obtain ⟨fd_law_like, F_law_like⟩ := c.def_ 9 (d := dd_law_like) rfl
  obtain ⟨fd_law_row, F_law_row⟩ := c.def_ 10 (d := dd_law_row) rfl
  obtain ⟨fd_law_masked, F_law_masked⟩ := c.def_ 11 (d := dd_law_masked) rfl
  obtain ⟨fd_law_due, F_law_due⟩ := c.def_ 12 (d := dd_law_due) rfl
  obtain ⟨fd_law_keeps, F_law_keeps⟩ := c.def_ 13 (d := dd_law_keeps) rfl
  obtain ⟨fd_law_promise, F_law_promise⟩ := c.def_ 14 (d := dd_law_promise) rfl
  obtain ⟨fd_law_promises, F_law_promises⟩ := c.def_ 15 (d := dd_law_promises) rfl
  obtain ⟨fd_law_fits, F_law_fits⟩ := c.def_ 16 (d := dd_law_fits) rfl
  obtain ⟨fd_law_rows, F_law_rows⟩ := c.def_ 17 (d := dd_law_rows) rfl
  obtain ⟨fd_law_few, F_law_few⟩ := c.def_ 18 (d := dd_law_few) rfl
  obtain ⟨fd_law_k13, F_law_k13⟩ := c.def_ 19 (d := dd_law_k13) rfl
  have g_started := He.glo_ok X G (c.fact 0 (f := .glo "started") rfl)
  have g_ended := He.glo_ok X G (c.fact 1 (f := .glo "ended") rfl)
  have g_nearest := He.glo_ok X G (c.fact 2 (f := .glo "nearest") rfl)
  have g_fewest_exceptions := He.glo_ok X G (c.fact 3 (f := .glo "fewest_exceptions") rfl)
  have g_all_weeks := He.glo_ok X G (c.fact 4 (f := .glo "all_weeks") rfl)
  have g_best_weeks := He.glo_ok X G (c.fact 5 (f := .glo "best_weeks") rfl)
  have g_law_draw := He.glo_ok X G (c.fact 6 (f := .glo "_law_draw") rfl)
  have g_law_like := He.glo_ok X G (c.fact 7 (f := .glo "_law_like") rfl)
  have g_law_row := He.glo_ok X G (c.fact 8 (f := .glo "_law_row") rfl)
  have g_law_masked := He.glo_ok X G (c.fact 9 (f := .glo "_law_masked") rfl)
  have g_law_due := He.glo_ok X G (c.fact 10 (f := .glo "_law_due") rfl)
  have g_law_keeps := He.glo_ok X G (c.fact 11 (f := .glo "_law_keeps") rfl)
  have g_law_promise := He.glo_ok X G (c.fact 12 (f := .glo "_law_promise") rfl)
  have g_law_promises := He.glo_ok X G (c.fact 13 (f := .glo "_law_promises") rfl)
  have g_law_fits := He.glo_ok X G (c.fact 14 (f := .glo "_law_fits") rfl)
  have g_law_rows := He.glo_ok X G (c.fact 15 (f := .glo "_law_rows") rfl)
  have g_law_few := He.glo_ok X G (c.fact 16 (f := .glo "_law_few") rfl)
  have g_law_k13 := He.glo_ok X G (c.fact 17 (f := .glo "law") rfl)
  have T : Tx K mg := ⟨He.free_ok X G (c.fact 18 (f := .free "zip") rfl), He.free_ok X G (c.fact 19 (f := .free "tuple") rfl), He.free_ok X G (c.fact 20 (f := .free "int") rfl), He.free_ok X G (c.fact 21 (f := .free "max") rfl), He.free_ok X G (c.fact 22 (f := .free "len") rfl), He.free_ok X G (c.fact 23 (f := .free "range") rfl), He.free_ok X G (c.fact 24 (f := .free "list") rfl), He.free_ok X G (c.fact 25 (f := .free "isinstance") rfl), He.free_ok X G (c.fact 26 (f := .free "bool") rfl), He.free_ok X G (c.fact 27 (f := .free "min") rfl), He.free_ok X G (c.fact 28 (f := .free "sorted") rfl), He.free_ok X G (c.fact 29 (f := .free "set") rfl), He.int_ok X G (c.fact 30 (f := .int "WEEK" 7) rfl), ⟨He.cls_ok (c.fact 31 (f := .cls "Table") rfl), by
    intro f hf
    simp only [fnames, List.mem_cons, List.not_mem_nil, or_false] at hf
    rcases hf with rfl | rfl | rfl
    · exact He.noat_ok (c.fact 32 (f := .noat "Table" "letters") rfl)
    · exact He.noat_ok (c.fact 33 (f := .noat "Table" "asked") rfl)
    · exact He.noat_ok (c.fact 34 (f := .noat "Table" "ways") rfl)⟩⟩
  have e := hfa.symm.trans g_law_k13
  cases e
  have b := FunD.bindsA (ps := ["script"]) F_law_k13 fun _ _ _ _ _ _ us hl => match us, hl with | [_], _ => rfl
  refine ⟨fd_law_k13, fun s v => b s [v] rfl, fun base _ _ => ?_⟩
  have J_started : JFn P w K mg base clN 1 "started" 3 m_started := ⟨_, g_started, j_started T F_started ⟩
  have J_ended : JFn P w K mg base clN 1 "ended" 4 m_ended := ⟨_, g_ended, j_ended T F_ended ⟩
  have J_TableD__initD_ : JMk P w K mg base clN 1 0 3 m_TableD__initD_ := ⟨_, He.glo_ok X G (c.fact 36 (f := .glo "Table") rfl), He.mkr_ok (c.fact 37 (f := .mkr "Table") rfl), j_TableD__initD_ T F_TableD__initD_ ⟩
  have J_Table_steps : JMt P w K mg base clN 2 0 "steps" 3 m_Table_steps := ⟨_, He.meth_ok (c.fact 35 (f := .meth "Table" "steps") rfl), j_Table_steps T F_Table_steps J_started J_ended⟩
  have J_nearest : JFn P w K mg base clN 3 "nearest" 3 m_nearest := ⟨_, g_nearest, j_nearest T F_nearest J_TableD__initD_ J_Table_steps⟩
  have J_fewest_exceptions : JFn P w K mg base clN 4 "fewest_exceptions" 3 m_fewest_exceptions := ⟨_, g_fewest_exceptions, j_fewest_exceptions T F_fewest_exceptions J_nearest⟩
  have J_all_weeks : JFn P w K mg base clN 1 "all_weeks" 0 m_all_weeks := ⟨_, g_all_weeks, j_all_weeks T F_all_weeks ⟩
  have J_best_weeks : JFn P w K mg base clN 5 "best_weeks" 2 m_best_weeks := ⟨_, g_best_weeks, j_best_weeks T F_best_weeks J_all_weeks J_fewest_exceptions⟩
  have J_law_draw : JFn P w K mg base clN 1 "_law_draw" 2 m_law_draw := ⟨_, g_law_draw, j_law_draw T F_law_draw ⟩
  have J_law_like : JFn P w K mg base clN 5 "_law_like" 2 m_law_like := ⟨_, g_law_like, j_law_like T F_law_like  (g_law_like)⟩
  have J_law_row : JFn P w K mg base clN 2 "_law_row" 2 m_law_row := ⟨_, g_law_row, j_law_row T F_law_row J_law_draw⟩
  have J_law_masked : JFn P w K mg base clN 2 "_law_masked" 2 m_law_masked := ⟨_, g_law_masked, j_law_masked T F_law_masked J_law_draw⟩
  have J_law_due : JFn P w K mg base clN 1 "_law_due" 3 m_law_due := ⟨_, g_law_due, j_law_due T F_law_due ⟩
  have J_law_keeps : JFn P w K mg base clN 2 "_law_keeps" 2 m_law_keeps := ⟨_, g_law_keeps, j_law_keeps T F_law_keeps J_law_due⟩
  have J_law_promise : JFn P w K mg base clN 2 "_law_promise" 2 m_law_promise := ⟨_, g_law_promise, j_law_promise T F_law_promise J_law_draw J_law_due⟩
  have J_law_promises : JFn P w K mg base clN 3 "_law_promises" 3 m_law_promises := ⟨_, g_law_promises, j_law_promises T F_law_promises J_law_draw J_law_promise⟩
  have J_law_fits : JFn P w K mg base clN 3 "_law_fits" 3 m_law_fits := ⟨_, g_law_fits, j_law_fits T F_law_fits J_law_keeps⟩
  have J_law_rows : JFn P w K mg base clN 4 "_law_rows" 2 m_law_rows := ⟨_, g_law_rows, j_law_rows T F_law_rows J_law_fits⟩
  have J_law_few : JFn P w K mg base clN 1 "_law_few" 1 m_law_few := ⟨_, g_law_few, j_law_few T F_law_few ⟩
  exact j_law_k13 T F_law_k13 J_law_draw J_law_row J_law_masked J_law_promises J_law_rows J_law_few J_best_weeks J_law_like J_fewest_exceptions
end Fl
open PySem PySem.W PySem.Calls PyProof.Rows
theorem PySem.Challenge.cw_workdaylogs_k13_whole_best_weeks_holds : PySem.Challenge.rw_workdaylogs_k13_whole_best_weeks.Holds := by
  w_on; o_law
  refine HandSHeadRun.head_any (r := OpenLaw.row PySem.Challenge.rw_workdaylogs_k13_whole_best_weeks) (q := view (OpenLaw.row PySem.Challenge.rw_workdaylogs_k13_whole_best_weeks).prog [22]) (H := Fl.hk) (ob := Fl.ob) (M := 12000) (loose := Fl.loose) (d := HandSHeadRun.topDef (OpenLaw.row PySem.Challenge.rw_workdaylogs_k13_whole_best_weeks).prog 22) (kwd := []) Fl.ob_eq
    (by kernel_rfl) (fun s => by kernel_rfl) Fl.run (by kernel_rfl) (by kernel_rfl) (by kernel_rfl) (by rfl) (by first | assumption | decide +kernel) (by decide +kernel) ⟨rfl, rfl, rfl, rfl, rfl, by decide +kernel⟩ ?hw ?hc
  case hw => w_witness2
  case hc =>
    refine Fl.law_end (l := PySem.Challenge.rw_workdaylogs_k13_whole_best_weeks) (k := 6) (m := Fl.m_law_k13) rfl (by kernel_rfl) ⟨rfl, by decide, by decide⟩ Fl.law_k13_true ?F
    intro w mg fa h Y G hmg0
    obtain ⟨K, KX, c⟩ := Y
    have hmg : mg ("law" : PySem.Str) = some (.ref fa) := by
      have e : (HandSHeadRun.topDef (OpenLaw.row PySem.Challenge.rw_workdaylogs_k13_whole_best_weeks).prog 22).name = ("law" : PySem.Str) := by kernel_rfl
      rw [← e]
      exact hmg0
    obtain ⟨fd, hb, hF⟩ := Fl.facts (P := (PySem.Challenge.rw_workdaylogs_k13_whole_best_weeks).prog) (w := w) KX G hmg c
    exact ⟨K, fd, Fl.clN, KX, hb, hF⟩
