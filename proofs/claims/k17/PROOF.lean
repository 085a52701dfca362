import PyProof.Rows.All
import Wide.All
import OpenK.AllK
import Wide.FinOn
import HandS.ForMost
import HandS.Codes
import HandS.Walk
import KE.KDictKeyed
import HandS.HeadHook1
import HandS.Exc
import HandS.TryOnly
import HandS.TryMany
import HandS.ExcOwn
import HandS.WordsExc
import HandS.Wide
import HandS.Style
import HandS.Deep
import HandS.IsInst
import HandS.TupAny
import HandS.Zip
import HandS.Defaults
import HandS.TupMul
import PyProof.StrOps2
import KE.GoesNew
import HandS.Star
import HandS.Text
import HandS.More
import HandS.SetFor
import HandS.Strs
import PyProof.Rows.SortShellAny
import HandS.Conv
import HandS.Head0
import HandS.Head1
import HandS.Head2
import HandS.HeadEnd
import HandS.HeadHook2
import HandS.Property
import OpenK.KMeth
import OpenK.KOps
import PyProof.ExcBaseAll.ValueError
import KE.KDictWalk
import HandS.Dict
import HandS.Iter
import HandS.SortInts
import KE.KDictDisplayH
import PyProof.Rows.CountFlat
import PyProof.Rows.Range3
import KE.KStateDown
import PySem.Challenge.RW_workdaylogs_k17_whole_promises_at_once
set_option Elab.async false
set_option linter.all false
set_option maxRecDepth 100000
/-! Fl: defs as functions on data. D: values without a heap; SO: what may change (lists of one's own); a reading that follows such a function. -/
namespace Fl
open PySem PySem.Spec PyProof.Rows L2
/-- data: `ob k` is the k-th thing of the store -/
inductive D where
  | non | bl (b : Bool) | int (i : Int) | str (s : List Nat) | tup (ds : List D) | lst (ds : List D) | scr (ns : List Int) | ty (n : String) | ob (k : Nat)
/-- what may change -/
inductive SO where
  | dead | lst (ds : List D) | ins (c : Nat) (ds : List D) | dic (kvs : List (NestedKey × D))
abbrev Sto := List SO
abbrev Sl := List (Option D)
/-- the signs of a text -/
def okS (s : List Nat) : Bool := s.all fun c => decide (c < 0x110000)
/-- a tuple that stands for good, or one of the module -/
def KT (K : PySem.W.Frag) (a : Addr) (vs : List V) : Prop := ∃ (o : Obj) (its : Array Value) (n : Nat), K.lookup a = some o ∧ o.cls = .type "tuple" ∧ o.data = .seq its n ∧ its.size ≤ sizeLine ∧ Vals vs its.toList
def TupAt (K : PySem.W.Frag) (M : Hp) (a : Addr) (vs : List V) : Prop := M a = some (.tup vs) ∨ KT K a vs
theorem TupAt.sq {K : PySem.W.Frag} {M : Hp} {a : Addr} {vs : List V} (h : TupAt K M a vs) : SqT K M a vs := h.elim (fun h => SqT.of h) .inr
mutual
/-- the value v is the data d, M being what stands for good -/
def RepF (K : PySem.W.Frag) (M : Hp) : D → V → Prop
  | .non, v => v = .non
  | .bl b, v => v = .bl b
  | .int i, v => v = .int i
  | .str s, v => v = .str ⟨s.toArray⟩ ∧ okS s = true
  | .tup ds, v => ∃ a vs, v = .ref a ∧ TupAt K M a vs ∧ RepL K M ds vs
  | .lst ds, v => ∃ a vs, v = .ref a ∧ M a = some (.lst vs) ∧ RepL K M ds vs
  | .scr ns, v => ∃ a, v = .ref a ∧ SqL K M a (ns.map V.int)
  | .ty n, v => v = .ty n
  | .ob _, _ => False
def RepL (K : PySem.W.Frag) (M : Hp) : List D → List V → Prop
  | [], vs => vs = []
  | d :: ds, vs => ∃ v r, vs = v :: r ∧ RepF K M d v ∧ RepL K M ds r
end
/-- ι: where the store's things stand -/
def Rep (K : PySem.W.Frag) (M : Hp) (ι : List Addr) : D → V → Prop
  | .ob k, v => ∃ a, v = .ref a ∧ ι[k]? = some a
  | d, v => RepF K M d v
def flat : D → Bool
  | .ob _ => false
  | _ => true
def flats (ds : List D) : Bool := ds.all flat
abbrev Ex (H H' : Hp) : Prop := ∀ a o, H a = some o → H' a = some o
theorem Ex.refl (H : Hp) : Ex H H := fun _ _ h => h
theorem Ex.trans {H H1 H2 : Hp} (a : Ex H H1) (b : Ex H1 H2) : Ex H H2 := fun x o h => b x o (a x o h)
theorem Ex.rd {H H' : Hp} {a : Addr} {u : HO} (e : Ex H H') (h : Rd H a u) : Rd H' a u := by
  rcases h with h | ⟨o, h⟩
  · exact .inl (e a _ h)
  · exact .inr ⟨o, e a _ h⟩
theorem Ex.l {K : PySem.W.Frag} {H H' : Hp} {a : Addr} {xs : List V} (e : Ex H H') (h : SqL K H a xs) : SqL K H' a xs := h.elim (fun h => .inl (Ex.rd e h)) .inr
theorem Ex.t {K : PySem.W.Frag} {H H' : Hp} {a : Addr} {xs : List V} (e : Ex H H') (h : SqT K H a xs) : SqT K H' a xs := h.elim (fun h => .inl (Ex.rd e h)) .inr
theorem Ex.new {H : Hp} {p : Addr} {o : HO} (h : H p = none) : Ex H (upd H p o) := fun a u e => by
  rw [upd_ne (ne_of_none e h)]; exact e
section
variable {K : PySem.W.Frag} {M M' : Hp} {ι ι' : List Addr}
mutual
theorem RepF.mono (m : Ex M M') : ∀ {d : D} {v : V}, RepF K M d v → RepF K M' d v
  | .non, v, h => by unfold RepF at h ⊢; exact h
  | .bl b, v, h => by unfold RepF at h ⊢; exact h
  | .int i, v, h => by unfold RepF at h ⊢; exact h
  | .str s, v, h => by unfold RepF at h ⊢; exact h
  | .ty n, v, h => by unfold RepF at h ⊢; exact h
  | .tup ds, v, h => by
    unfold RepF at h ⊢
    obtain ⟨a, vs, e, h1, h2⟩ := h
    exact ⟨a, vs, e, h1.elim (fun h => .inl (m _ _ h)) .inr, RepL.mono m h2⟩
  | .lst ds, v, h => by
    unfold RepF at h ⊢
    obtain ⟨a, vs, e, h1, h2⟩ := h
    exact ⟨a, vs, e, m _ _ h1, RepL.mono m h2⟩
  | .scr ns, v, h => by
    unfold RepF at h ⊢
    obtain ⟨a, e, h1⟩ := h
    exact ⟨a, e, Ex.l m h1⟩
  | .ob k, v, h => by unfold RepF at h; exact h.elim
theorem RepL.mono (m : Ex M M') : ∀ {ds : List D} {vs : List V}, RepL K M ds vs → RepL K M' ds vs
  | [], vs, h => by unfold RepL at h ⊢; exact h
  | d :: ds, vs, h => by
    unfold RepL at h ⊢
    obtain ⟨v, r, e, h1, h2⟩ := h
    exact ⟨v, r, e, RepF.mono m h1, RepL.mono m h2⟩
end
theorem Rep.of {d : D} {v : V} (h : RepF K M d v) : Rep K M ι d v := by
  cases d <;> first | exact h | (unfold RepF at h; exact h.elim)
theorem Rep.f {d : D} {v : V} (h : Rep K M ι d v) (f : flat d = true) : RepF K M d v := by
  cases d <;> first | exact h | cases f
theorem Rep.mono (m : Ex M M') (i : ∀ (k : Nat) (a : Addr), ι[k]? = some a → ι'[k]? = some a) {d : D} {v : V} (h : Rep K M ι d v) : Rep K M' ι' d v := by
  cases d with
  | ob k =>
    obtain ⟨a, e, h1⟩ := h
    exact ⟨a, e, i _ _ h1⟩
  | _ => exact Rep.of (RepF.mono m h)
theorem RepL.length : ∀ {ds : List D} {vs : List V}, RepL K M ds vs → vs.length = ds.length
  | [], vs, h => by unfold RepL at h; rw [h]; rfl
  | d :: ds, vs, h => by
    unfold RepL at h
    obtain ⟨v, r, rfl, _, h2⟩ := h
    simp [RepL.length h2]
theorem RepL.get : ∀ {ds : List D} {vs : List V} {i : Nat} {d : D}, RepL K M ds vs → ds[i]? = some d → ∃ v, vs[i]? = some v ∧ RepF K M d v
  | [], _, _, _, _, e => by simp at e
  | d :: ds, vs, 0, x, h, e => by
    unfold RepL at h
    obtain ⟨v, r, rfl, h1, _⟩ := h
    simp at e; subst e
    exact ⟨v, rfl, h1⟩
  | d :: ds, vs, i + 1, x, h, e => by
    unfold RepL at h
    obtain ⟨v, r, rfl, _, h2⟩ := h
    simp at e
    obtain ⟨u, h3, h4⟩ := RepL.get h2 e
    exact ⟨u, by simpa using h3, h4⟩
theorem RepL.getV {ds : List D} {vs : List V} {i : Nat} {v : V} (h : RepL K M ds vs) (e : vs[i]? = some v) : ∃ d, ds[i]? = some d ∧ RepF K M d v := by
  have hl := h.length
  have hi : i < ds.length := by rw [← hl]; exact (List.getElem?_eq_some_iff.mp e).1
  obtain ⟨u, h1, h2⟩ := h.get (List.getElem?_eq_getElem hi)
  rw [e] at h1; cases h1
  exact ⟨_, List.getElem?_eq_getElem hi, h2⟩
theorem RepL.nil : RepL K M [] [] := by unfold RepL; rfl
theorem RepL.cons {d : D} {ds : List D} {v : V} {vs : List V} (h : RepF K M d v) (r : RepL K M ds vs) : RepL K M (d :: ds) (v :: vs) := by
  unfold RepL; exact ⟨v, vs, rfl, h, r⟩
theorem RepL.uncons {d : D} {ds : List D} {vs : List V} (h : RepL K M (d :: ds) vs) : ∃ v r, vs = v :: r ∧ RepF K M d v ∧ RepL K M ds r := by
  unfold RepL at h; exact h
theorem RepL.unnil {vs : List V} (h : RepL K M [] vs) : vs = [] := by unfold RepL at h; exact h
theorem RepL.append : ∀ {ds es : List D} {vs us : List V}, RepL K M ds vs → RepL K M es us → RepL K M (ds ++ es) (vs ++ us)
  | [], _, _, _, h, g => by rw [h.unnil]; exact g
  | d :: ds, _, _, _, h, g => by
    obtain ⟨v, r, rfl, h1, h2⟩ := h.uncons
    exact .cons h1 (RepL.append h2 g)
theorem RepL.take : ∀ {ds : List D} {vs : List V} (n : Nat), RepL K M ds vs → RepL K M (ds.take n) (vs.take n)
  | _, _, 0, _ => .nil
  | [], _, _ + 1, h => by rw [h.unnil]; exact .nil
  | d :: ds, _, n + 1, h => by
    obtain ⟨v, r, rfl, h1, h2⟩ := h.uncons
    exact .cons h1 (RepL.take n h2)
theorem RepL.drop : ∀ {ds : List D} {vs : List V} (n : Nat), RepL K M ds vs → RepL K M (ds.drop n) (vs.drop n)
  | _, _, 0, h => h
  | [], _, _ + 1, h => by rw [h.unnil]; exact .nil
  | d :: ds, _, n + 1, h => by
    obtain ⟨v, r, rfl, h1, h2⟩ := h.uncons
    exact RepL.drop n h2
theorem RepL.set : ∀ {ds : List D} {vs : List V} {d : D} {v : V} (i : Nat), RepL K M ds vs → RepF K M d v → RepL K M (ds.set i d) (vs.set i v)
  | [], _, _, _, _, h, _ => by rw [h.unnil]; exact .nil
  | e :: ds, _, _, _, 0, h, g => by
    obtain ⟨v, r, rfl, _, h2⟩ := h.uncons
    exact .cons g h2
  | e :: ds, _, _, _, i + 1, h, g => by
    obtain ⟨v, r, rfl, h1, h2⟩ := h.uncons
    exact .cons h1 (RepL.set i h2 g)
end
/-! ### many, things of the store among them -/
inductive Reps (K : PySem.W.Frag) (M : Hp) (ι : List Addr) : List D → List V → Prop
  | nil : Reps K M ι [] []
  | cons {d : D} {ds : List D} {v : V} {vs : List V} : Rep K M ι d v → Reps K M ι ds vs → Reps K M ι (d :: ds) (v :: vs)
section
variable {K : PySem.W.Frag} {M M' : Hp} {ι ι' : List Addr}
theorem Reps.mono (m : Ex M M') (i : ∀ (k : Nat) (a : Addr), ι[k]? = some a → ι'[k]? = some a) {ds : List D} {vs : List V} (h : Reps K M ι ds vs) : Reps K M' ι' ds vs := by
  induction h with
  | nil => exact .nil
  | cons a _ ih => exact .cons (a.mono m i) ih
theorem Reps.length {ds : List D} {vs : List V} (h : Reps K M ι ds vs) : vs.length = ds.length := by
  induction h with
  | nil => rfl
  | cons _ _ ih => simp [ih]
theorem Reps.flat {ds : List D} {vs : List V} (h : Reps K M ι ds vs) (f : flats ds = true) : RepL K M ds vs := by
  induction h with
  | nil => exact RepL.nil
  | cons a _ ih =>
    simp [flats] at f
    exact .cons (a.f f.1) (ih (by simp [flats]; exact f.2))
theorem Reps.of : ∀ {ds : List D} {vs : List V}, RepL K M ds vs → Reps K M ι ds vs
  | [], _, h => by rw [h.unnil]; exact .nil
  | d :: ds, _, h => by
    obtain ⟨v, r, rfl, h1, h2⟩ := h.uncons
    exact .cons (Rep.of h1) (Reps.of h2)
theorem Reps.get : ∀ {ds : List D} {vs : List V} {i : Nat} {d : D}, Reps K M ι ds vs → ds[i]? = some d → ∃ v, vs[i]? = some v ∧ Rep K M ι d v
  | [], _, _, _, _, e => by simp at e
  | d :: ds, _, 0, x, h, e => by
    cases h with
    | cons h1 _ => simp at e; subst e; exact ⟨_, rfl, h1⟩
  | d :: ds, _, i + 1, x, h, e => by
    cases h with
    | cons _ h2 =>
      simp at e
      obtain ⟨u, h3, h4⟩ := h2.get e
      exact ⟨u, by simpa using h3, h4⟩
theorem Reps.append {ds es : List D} {vs us : List V} (h : Reps K M ι ds vs) (g : Reps K M ι es us) : Reps K M ι (ds ++ es) (vs ++ us) := by
  induction h with
  | nil => exact g
  | cons a _ ih => exact .cons a ih
theorem Reps.set {ds : List D} {vs : List V} {d : D} {v : V} (h : Reps K M ι ds vs) (g : Rep K M ι d v) : ∀ i : Nat, Reps K M ι (ds.set i d) (vs.set i v) := by
  induction h with
  | nil => exact fun _ => .nil
  | cons a b ih =>
    intro i
    cases i with
    | zero => exact .cons g b
    | succ i => exact .cons a (ih i)
end
/-! ### keys of dicts -/
mutual
def KeyM (K : PySem.W.Frag) (M : Hp) : NestedKey → V → Prop
  | .none, v => v = .non
  | .num i, v => v = .int i
  | .text _, _ => False
  | .tup ks, v => ∃ a vs, v = .ref a ∧ TupAt K M a vs ∧ KeysM K M ks vs
def KeysM (K : PySem.W.Frag) (M : Hp) : List NestedKey → List V → Prop
  | [], vs => vs = []
  | k :: ks, vs => ∃ v r, vs = v :: r ∧ KeyM K M k v ∧ KeysM K M ks r
end
mutual
theorem KeyM.mono {K : PySem.W.Frag} {M M' : Hp} (m : Ex M M') : ∀ {k : NestedKey} {v : V}, KeyM K M k v → KeyM K M' k v
  | .none, v, h => by unfold KeyM at h ⊢; exact h
  | .num i, v, h => by unfold KeyM at h ⊢; exact h
  | .text x, v, h => by unfold KeyM at h; exact h.elim
  | .tup ks, v, h => by
    unfold KeyM at h ⊢
    obtain ⟨a, vs, e, h1, h2⟩ := h
    exact ⟨a, vs, e, h1.elim (fun h => .inl (m _ _ h)) .inr, KeysM.mono m h2⟩
theorem KeysM.mono {K : PySem.W.Frag} {M M' : Hp} (m : Ex M M') : ∀ {ks : List NestedKey} {vs : List V}, KeysM K M ks vs → KeysM K M' ks vs
  | [], vs, h => by unfold KeysM at h ⊢; exact h
  | k :: ks, vs, h => by
    unfold KeysM at h ⊢
    obtain ⟨v, r, e, h1, h2⟩ := h
    exact ⟨v, r, e, KeyM.mono m h1, KeysM.mono m h2⟩
end
mutual
/-- no texts in it -/
def ntx : NestedKey → Bool
  | .none => true
  | .num _ => true
  | .text _ => false
  | .tup ks => ntxs ks
def ntxs : List NestedKey → Bool
  | [] => true
  | k :: ks => ntx k && ntxs ks
end
mutual
theorem KeyM.ntx {K : PySem.W.Frag} {M : Hp} : ∀ {k : NestedKey} {v : V}, KeyM K M k v → ntx k = true
  | .none, v, h => by simp [Fl.ntx]
  | .num i, v, h => by simp [Fl.ntx]
  | .text x, v, h => by unfold KeyM at h; exact h.elim
  | .tup ks, v, h => by
    unfold KeyM at h
    obtain ⟨a, vs, e, h1, h2⟩ := h
    unfold Fl.ntx
    exact KeysM.ntxs h2
theorem KeysM.ntxs {K : PySem.W.Frag} {M : Hp} : ∀ {ks : List NestedKey} {vs : List V}, KeysM K M ks vs → ntxs ks = true
  | [], vs, h => by simp [Fl.ntxs]
  | k :: ks, vs, h => by
    unfold KeysM at h
    obtain ⟨v, r, e, h1, h2⟩ := h
    unfold Fl.ntxs
    rw [KeyM.ntx h1, KeysM.ntxs h2]; rfl
end
mutual
/-- the hash of a key without texts -/
def hsh : NestedKey → Int
  | .none => reduceHash 0xFCA86420
  | .num i => hashInt i
  | .text _ => 0
  | .tup ks => reduceHash (Builtin.Tuple.tupleHashOf (hshs ks))
def hshs : List NestedKey → List Int
  | [] => []
  | k :: ks => hsh k :: hshs ks
end
mutual
theorem hsh_eq (w : World) : ∀ k : NestedKey, ntx k = true → NestedKey.hash w k = hsh k
  | .none, _ => by simp [NestedKey.hash, hsh]
  | .num i, _ => by simp [NestedKey.hash, hsh]
  | .text x, h => by simp [ntx] at h
  | .tup ks, h => by
    unfold ntx at h
    unfold NestedKey.hash hsh
    rw [hshs_eq w ks h]
theorem hshs_eq (w : World) : ∀ ks : List NestedKey, ntxs ks = true → NestedKey.hashes w ks = hshs ks
  | [], _ => by simp [NestedKey.hashes, hshs]
  | k :: ks, h => by
    unfold ntxs at h
    simp only [Bool.and_eq_true] at h
    unfold NestedKey.hashes hshs
    rw [hsh_eq w k h.1, hshs_eq w ks h.2]
end
abbrev Ent := NestedKey × Addr × Value
def ent (x : Ent) : DictEntry := ⟨hsh x.1, .ref x.2.1, x.2.2⟩
/-- a dict at a with these entries -/
def dicO (a : Addr) (xs : List Ent) : HO := .ext fun h => ∃ o es ep, h.get? a = some o ∧ o.ExactDict ∧ o.data = .dict es ep ∧ es.toList = xs.map ent
structure Ents (K : PySem.W.Frag) (M : Hp) (ι : List Addr) (kvs : List (NestedKey × D)) (xs : List Ent) (vs : List V) : Prop where
  keys : xs.map (·.1) = kvs.map (·.1)
  nd : (kvs.map (·.1)).Nodup
  key : ∀ x ∈ xs, KeyM K M x.1 (.ref x.2.1) ∧ x.1.depth ≤ 8
  vals : Vals vs (xs.map (·.2.2))
  reps : Reps K M ι (kvs.map (·.2)) vs
theorem Ents.mono {K : PySem.W.Frag} {M M' : Hp} {ι ι' : List Addr} {kvs : List (NestedKey × D)} {xs : List Ent} {vs : List V} (h : Ents K M ι kvs xs vs) (m : Ex M M') (i : ∀ (k : Nat) (a : Addr), ι[k]? = some a → ι'[k]? = some a) : Ents K M' ι' kvs xs vs :=
  ⟨h.keys, h.nd, fun x hx => ⟨(h.key x hx).1.mono m, (h.key x hx).2⟩, h.vals, h.reps.mono m i⟩
/-- classes by number: name, attributes in the order in which they are set -/
def cname : Nat → Str
  | 0 => "Table"
  | 1 => "Days"
  | _ => "Log"
def fnames : Nat → List Str
  | 0 => ["letters", "asked", "ways"]
  | 1 => ["row", "works"]
  | _ => ["days", "held", "letters", "earlier"]
/-! ### the state -/
def ObOk (K : PySem.W.Frag) (M : Hp) (ι : List Addr) (H : Hp) (a : Addr) : SO → Prop
  | .dead => H a ≠ none
  | .lst ds => M a = none ∧ ∃ vs, H a = some (.lst vs) ∧ Reps K M ι ds vs
  | .ins c ds => M a = none ∧ ∃ dx vs, H a = some (.ins (He.ga K (cname c)) dx ((fnames c).zip vs)) ∧ Reps K M ι ds vs
  | .dic kvs => M a = none ∧ (a == sysModules) = false ∧ ∃ xs vs, H a = some (dicO a xs) ∧ Ents K M ι kvs xs vs
structure Conc (K : PySem.W.Frag) (M : Hp) (ι : List Addr) (s : Sto) (H : Hp) : Prop where
  sub : Ex M H
  len : ι.length = s.length
  nd : ι.Nodup
  obs : ∀ (k : Nat) (a : Addr) (o : SO), ι[k]? = some a → s[k]? = some o → ObOk K M ι H a o
/-- from one state to a later one -/
structure Step (M : Hp) (ι : List Addr) (H : Hp) (M' : Hp) (ι' : List Addr) (H' : Hp) : Prop where
  mm : Ex M M'
  ii : ∀ (k : Nat) (a : Addr), ι[k]? = some a → ι'[k]? = some a
  fr : ∀ a o, H a = some o → a ∉ ι → H' a = some o
  im : ∀ a, a ∈ ι' → a ∈ ι ∨ H a = none
  mn : ∀ a, M' a ≠ none → M a ≠ none ∨ a ∈ ι ∨ H a = none
theorem Step.refl {M : Hp} {ι : List Addr} {H : Hp} : Step M ι H M ι H := ⟨Ex.refl M, fun _ _ h => h, fun _ _ h _ => h, fun _ h => .inl h, fun _ h => .inl h⟩
theorem Step.trans {M M1 M2 : Hp} {ι ι1 ι2 : List Addr} {H H1 H2 : Hp} (a : Step M ι H M1 ι1 H1) (b : Step M1 ι1 H1 M2 ι2 H2) : Step M ι H M2 ι2 H2 := by
  have key : ∀ x, x ∉ ι → H1 x = none → H x = none := fun x h e => by
    cases q : H x with
    | none => rfl
    | some o => rw [a.fr x o q h] at e; cases e
  refine ⟨Ex.trans a.mm b.mm, fun k x h => b.ii k x (a.ii k x h), fun x o h n => b.fr x o (a.fr x o h n) fun z => ?_, fun x h => ?_, fun x h => ?_⟩
  · rcases a.im x z with w | w
    · exact n w
    · rw [h] at w; cases w
  · by_cases z : x ∈ ι
    · exact .inl z
    · rcases b.im x h with w | w
      · exact a.im x w
      · exact .inr (key x z w)
  · by_cases z : x ∈ ι
    · exact .inr (.inl z)
    · rcases b.mn x h with w | w | w
      · exact a.mn x w
      · exact (a.im x w).elim (fun q => .inr (.inl q)) fun q => .inr (.inr q)
      · exact .inr (.inr (key x z w))
theorem Rep.step {K : PySem.W.Frag} {M M' : Hp} {ι ι' : List Addr} {H H' : Hp} {d : D} {v : V} (t : Step M ι H M' ι' H') (h : Rep K M ι d v) : Rep K M' ι' d v := h.mono t.mm t.ii
theorem RepF.step {K : PySem.W.Frag} {M M' : Hp} {ι ι' : List Addr} {H H' : Hp} {d : D} {v : V} (t : Step M ι H M' ι' H') (h : RepF K M d v) : RepF K M' d v := h.mono t.mm
theorem RepL.step {K : PySem.W.Frag} {M M' : Hp} {ι ι' : List Addr} {H H' : Hp} {d : List D} {v : List V} (t : Step M ι H M' ι' H') (h : RepL K M d v) : RepL K M' d v := h.mono t.mm
theorem Conc.at {K : PySem.W.Frag} {M : Hp} {ι : List Addr} {s : Sto} {H : Hp} (C : Conc K M ι s H) {k : Nat} {o : SO} (h : s[k]? = some o) : ∃ a, ι[k]? = some a ∧ ObOk K M ι H a o := by
  have hk : k < ι.length := by rw [C.len]; exact (List.getElem?_eq_some_iff.mp h).1
  exact ⟨ι[k], List.getElem?_eq_getElem hk, C.obs k _ o (List.getElem?_eq_getElem hk) h⟩
theorem Conc.there {K : PySem.W.Frag} {M : Hp} {ι : List Addr} {s : Sto} {H : Hp} (C : Conc K M ι s H) {a : Addr} (h : a ∈ ι) : H a ≠ none := by
  obtain ⟨k, hk, rfl⟩ := List.getElem_of_mem h
  have hs : k < s.length := by rw [← C.len]; exact hk
  have q := C.obs k _ _ (List.getElem?_eq_getElem hk) (List.getElem?_eq_getElem hs)
  revert q
  cases s[k] with
  | dead => exact fun q => q
  | lst ds => rintro ⟨_, vs, q, _⟩; rw [q]; simp
  | ins c ds => rintro ⟨_, dx, vs, q, _⟩; rw [q]; simp
  | dic kvs => rintro ⟨_, _, xs, vs, q, _⟩; rw [q]; simp
theorem Conc.fresh {K : PySem.W.Frag} {M : Hp} {ι : List Addr} {s : Sto} {H : Hp} (C : Conc K M ι s H) {p : Addr} (h : H p = none) : M p = none ∧ p ∉ ι := by
  constructor
  · cases q : M p with
    | none => rfl
    | some o => rw [C.sub p o q] at h; cases h
  · exact fun z => C.there z h
/-- an object kept when the heap changes elsewhere -/
theorem ObOk.keep {K : PySem.W.Frag} {M M' : Hp} {ι ι' : List Addr} {H H' : Hp} {a : Addr} {o : SO} (h : ObOk K M ι H a o) (m : Ex M M') (i : ∀ (k : Nat) (a : Addr), ι[k]? = some a → ι'[k]? = some a) (e : ∀ u, H a = some u → H' a = some u) (n : M a = none → M' a = none) : ObOk K M' ι' H' a o := by
  cases o with
  | dead =>
    show H' a ≠ none
    have h' : H a ≠ none := h
    cases q : H a with
    | none => exact absurd q h'
    | some u => rw [e u q]; simp
  | lst ds =>
    obtain ⟨h1, vs, h2, h3⟩ := h
    exact ⟨n h1, vs, e _ h2, h3.mono m i⟩
  | ins c ds =>
    obtain ⟨h1, dx, vs, h2, h3⟩ := h
    exact ⟨n h1, dx, vs, e _ h2, h3.mono m i⟩
  | dic kvs =>
    obtain ⟨h1, h0, xs, vs, h2, h3⟩ := h
    exact ⟨n h1, h0, xs, vs, e _ h2, h3.mono m i⟩
/-- something new that stands for good -/
theorem Conc.laid {K : PySem.W.Frag} {M : Hp} {ι : List Addr} {s : Sto} {H : Hp} (C : Conc K M ι s H) {p : Addr} {o : HO} (h : H p = none) : Conc K (upd M p o) ι s (upd H p o) ∧ Step M ι H (upd M p o) ι (upd H p o) := by
  obtain ⟨hM, hι⟩ := C.fresh h
  constructor
  · refine ⟨fun a u e => ?_, C.len, C.nd, fun k a u e1 e2 => ?_⟩
    · by_cases q : a = p
      · subst q; rw [upd_same] at e ⊢; exact e
      · rw [upd_ne q] at e ⊢; exact C.sub a u e
    · have ne : a ≠ p := fun z => hι (z ▸ List.mem_of_getElem? e1)
      exact (C.obs k a u e1 e2).keep (Ex.new hM) (fun _ _ q => q) (fun u q => by rw [upd_ne ne]; exact q) (fun q => by rw [upd_ne ne]; exact q)
  · refine ⟨Ex.new hM, fun _ _ h => h, fun a u e _ => by rw [upd_ne (ne_of_none e h)]; exact e, fun _ h => .inl h, fun a e => ?_⟩
    by_cases q : a = p
    · subst q; exact .inr (.inr h)
    · rw [upd_ne q] at e; exact .inl e
/-- something new on the way: it belongs to nobody yet -/
theorem Conc.over {K : PySem.W.Frag} {M : Hp} {ι : List Addr} {s : Sto} {H : Hp} (C : Conc K M ι s H) {p : Addr} {o : HO} (h : H p = none) : Conc K M ι s (upd H p o) ∧ Step M ι H M ι (upd H p o) := by
  obtain ⟨hM, hι⟩ := C.fresh h
  constructor
  · refine ⟨Ex.trans C.sub (Ex.new h), C.len, C.nd, fun k a u e1 e2 => ?_⟩
    have ne : a ≠ p := fun z => hι (z ▸ List.mem_of_getElem? e1)
    exact (C.obs k a u e1 e2).keep (Ex.refl M) (fun _ _ q => q) (fun u q => by rw [upd_ne ne]; exact q) (fun q => q)
  · exact ⟨Ex.refl M, fun _ _ h => h, fun a u e _ => by rw [upd_ne (ne_of_none e h)]; exact e, fun _ h => .inl h, fun a e => .inl e⟩
/-- what belongs to nobody changes -/
theorem Conc.own {K : PySem.W.Frag} {M : Hp} {ι : List Addr} {s : Sto} {H : Hp} (C : Conc K M ι s H) {p : Addr} {o : HO} (hM : M p = none) (hι : p ∉ ι) : Conc K M ι s (upd H p o) := by
  refine ⟨fun a u e => ?_, C.len, C.nd, fun k a u e1 e2 => ?_⟩
  · by_cases q : a = p
    · subst q; rw [hM] at e; cases e
    · rw [upd_ne q]; exact C.sub a u e
  · have ne : a ≠ p := fun z => hι (z ▸ List.mem_of_getElem? e1)
    exact (C.obs k a u e1 e2).keep (Ex.refl M) (fun _ _ q => q) (fun u q => by rw [upd_ne ne]; exact q) (fun q => q)
/-- what belongs to nobody now stands for good -/
theorem Conc.freeze {K : PySem.W.Frag} {M : Hp} {ι : List Addr} {s : Sto} {H : Hp} (C : Conc K M ι s H) {p : Addr} {o : HO} (hM : M p = none) (hι : p ∉ ι) (hH : H p = some o) : Conc K (upd M p o) ι s H := by
  refine ⟨fun a u e => ?_, C.len, C.nd, fun k a u e1 e2 => ?_⟩
  · by_cases q : a = p
    · subst q; rw [upd_same] at e; cases e; exact hH
    · rw [upd_ne q] at e; exact C.sub a u e
  · have ne : a ≠ p := fun z => hι (z ▸ List.mem_of_getElem? e1)
    exact (C.obs k a u e1 e2).keep (Ex.new hM) (fun _ _ q => q) (fun u q => q) (fun q => by rw [upd_ne ne]; exact q)
theorem ii_app {ι : List Addr} {p : Addr} : ∀ (k : Nat) (a : Addr), ι[k]? = some a → (ι ++ [p])[k]? = some a := fun k a h => by
    rw [List.getElem?_append_left (List.getElem?_eq_some_iff.mp h).1]; exact h
/-- what belongs to nobody joins the store -/
theorem Conc.join {K : PySem.W.Frag} {M : Hp} {ι : List Addr} {s : Sto} {H : Hp} (C : Conc K M ι s H) {p : Addr} {u : SO} (hι : p ∉ ι) (hu : ObOk K M (ι ++ [p]) H p u) : Conc K M (ι ++ [p]) (s ++ [u]) H := by
  refine ⟨C.sub, by simp [C.len], ?_, fun k a o e1 e2 => ?_⟩
  · rw [List.nodup_append]
    refine ⟨C.nd, by simp, fun a ha b hb => ?_⟩
    obtain rfl : b = p := by simpa using hb
    exact fun z => hι (z ▸ ha)
  · by_cases hk : k < s.length
    · rw [List.getElem?_append_left hk] at e2
      rw [List.getElem?_append_left (by rw [C.len]; exact hk)] at e1
      exact (C.obs k a o e1 e2).keep (Ex.refl M) ii_app (fun _ h => h) (fun h => h)
    · have hk2 : k = s.length := by
        have := (List.getElem?_eq_some_iff.mp e2).1
        simp at this; omega
      subst hk2
      simp at e2
      rw [← C.len] at e1
      simp at e1
      subst e1 e2
      exact hu
/-- a thing of the store changes -/
theorem Conc.put {K : PySem.W.Frag} {M : Hp} {ι : List Addr} {s : Sto} {H : Hp} (C : Conc K M ι s H) {k : Nat} {a : Addr} {o : HO} {u : SO} (hk : ι[k]? = some a) (hM : M a = none) (hu : ObOk K M ι (upd H a o) a u) : Conc K M ι (s.set k u) (upd H a o) ∧ Step M ι H M ι (upd H a o) := by
  constructor
  · refine ⟨fun b v e => ?_, by rw [List.length_set]; exact C.len, C.nd, fun j b v e1 e2 => ?_⟩
    · by_cases q : b = a
      · subst q; rw [hM] at e; cases e
      · rw [upd_ne q]; exact C.sub b v e
    · by_cases hj : j = k
      · subst hj
        rw [hk] at e1; cases e1
        have hl : j < s.length := by have := (List.getElem?_eq_some_iff.mp hk).1; rw [C.len] at this; exact this
        rw [List.getElem?_set_self hl] at e2; cases e2
        exact hu
      · rw [List.getElem?_set_ne (Ne.symm hj)] at e2
        have ne : b ≠ a := by
          rintro rfl
          obtain ⟨h1, q1⟩ := List.getElem?_eq_some_iff.mp e1
          obtain ⟨h2, q2⟩ := List.getElem?_eq_some_iff.mp hk
          exact hj ((List.getElem_inj C.nd).mp (q1.trans q2.symm))
        exact (C.obs j b v e1 e2).keep (Ex.refl M) (fun _ _ q => q) (fun u q => by rw [upd_ne ne]; exact q) (fun q => q)
  · refine ⟨Ex.refl M, fun _ _ h => h, fun b v e n => ?_, fun _ h => .inl h, fun b e => .inl e⟩
    have ne : b ≠ a := fun z => n (z ▸ List.mem_of_getElem? hk)
    rw [upd_ne ne]; exact e
/-! ### the store's last things forgotten -/
/-- no thing from n on -/
def low (n : Nat) : D → Bool
  | .ob k => decide (k < n)
  | _ => true
def lows (n : Nat) (ds : List D) : Bool := ds.all (low n)
def lowO (n : Nat) : SO → Bool
  | .lst ds => lows n ds
  | .dead => true
  | .ins _ ds => lows n ds
  | .dic kvs => lows n (kvs.map (·.2))
/-- the first things hold no later ones, or are as they were -/
def Chk (s s' : Sto) : Prop := ∀ k < s.length, s'[k]? = s[k]? ∨ ∃ o, s'[k]? = some o ∧ lowO s.length o = true
theorem Rep.low {K : PySem.W.Frag} {M : Hp} {ι : List Addr} {n : Nat} {d : D} {v : V} (h : Rep K M ι d v) (l : low n d = true) : Rep K M (ι.take n) d v := by
  cases d with
  | ob k =>
    obtain ⟨a, e, h1⟩ := h
    simp only [Fl.low, decide_eq_true_eq] at l
    exact ⟨a, e, by rw [List.getElem?_take_of_lt l]; exact h1⟩
  | _ => exact h
theorem Reps.low {K : PySem.W.Frag} {M : Hp} {ι : List Addr} {n : Nat} {ds : List D} {vs : List V} (h : Reps K M ι ds vs) (l : lows n ds = true) : Reps K M (ι.take n) ds vs := by
  induction h with
  | nil => exact .nil
  | cons a _ ih =>
    simp [lows] at l
    exact .cons (a.low l.1) (ih (by simp [lows]; exact l.2))
/-- what stands there holds only what stood there -/
theorem Conc.lows {K : PySem.W.Frag} {M : Hp} {ι : List Addr} {s : Sto} {H : Hp} (C : Conc K M ι s H) {k : Nat} {o : SO} (h : s[k]? = some o) : lowO s.length o = true := by
  obtain ⟨a, h1, h2⟩ := C.at h
  have key : ∀ {ds : List D} {vs : List V}, Reps K M ι ds vs → Fl.lows s.length ds = true := by
    intro ds vs r
    induction r with
    | nil => rfl
    | @cons d ds v vs a _ ih =>
      have hd : low s.length d = true := by
        cases d with
        | ob k =>
          obtain ⟨b, _, h3⟩ := a
          have := (List.getElem?_eq_some_iff.mp h3).1
          rw [C.len] at this
          simp only [low, decide_eq_true_eq]; exact this
        | _ => rfl
      simp only [Fl.lows, List.all_cons, hd, Bool.true_and]
      exact ih
  cases o with
  | dead => rfl
  | lst ds =>
    obtain ⟨_, vs, _, r⟩ := h2
    exact key r
  | ins c ds =>
    obtain ⟨_, dx, vs, _, r⟩ := h2
    exact key r
  | dic kvs =>
    obtain ⟨_, _, xs, vs, _, r⟩ := h2
    exact key r.reps
/-- s': later than s; its last things are forgotten, those of them that are lists stand for good -/
theorem Conc.back {K : PySem.W.Frag} {M M' : Hp} {ι ι' : List Addr} {s s' : Sto} {H H' : Hp} (C : Conc K M ι s H) (t : Step M ι H M' ι' H') (C' : Conc K M' ι' s' H') (c : Chk s s') :
    ∃ M'', Conc K M'' (ι'.take s.length) (s'.take s.length) H' ∧ Step M ι H M'' (ι'.take s.length) H' ∧ Ex M' M'' ∧ ∀ (k : Nat) (a : Addr) (ds : List D), s.length ≤ k → ι'[k]? = some a → s'[k]? = some (.lst ds) → M'' a = H' a := by
  classical
  let M'' : Hp := fun a => if M' a ≠ none then M' a else if (∃ (k : Nat) (ds : List D), s.length ≤ k ∧ ι'[k]? = some a ∧ s'[k]? = some (.lst ds)) then H' a else none
  have ex : Ex M' M'' := fun a o e => by
    show (if M' a ≠ none then M' a else _) = some o
    rw [if_pos (by rw [e]; simp)]; exact e
  have hnew : ∀ (k : Nat) (a : Addr) (ds : List D), s.length ≤ k → ι'[k]? = some a → s'[k]? = some (.lst ds) → M'' a = H' a := fun k a ds h1 h2 h3 => by
    obtain ⟨hM, vs, hH, _⟩ := C'.obs k a _ h2 h3
    show (if M' a ≠ none then M' a else _) = H' a
    rw [if_neg (by rw [hM]; simp), if_pos ⟨k, ds, h1, h2, h3⟩]
  have uniq : ∀ (j k : Nat) (a : Addr), ι'[j]? = some a → ι'[k]? = some a → j = k := fun j k a h1 h2 => by
    obtain ⟨q1, w1⟩ := List.getElem?_eq_some_iff.mp h1
    obtain ⟨q2, w2⟩ := List.getElem?_eq_some_iff.mp h2
    exact (List.getElem_inj C'.nd).mp (w1.trans w2.symm)
  refine ⟨M'', ⟨fun a o e => ?_, by simp [C'.len], List.Nodup.sublist (List.take_sublist _ ι') C'.nd, fun k a o e1 e2 => ?_⟩, ⟨Ex.trans t.mm ex, fun k a h => ?_, t.fr, fun a h => t.im a (List.mem_of_mem_take h), fun a h => ?_⟩, ex, hnew⟩
  · have e' : (if M' a ≠ none then M' a else if (∃ (k : Nat) (ds : List D), s.length ≤ k ∧ ι'[k]? = some a ∧ s'[k]? = some (.lst ds)) then H' a else none) = some o := e
    split at e'
    · exact C'.sub a o e'
    · split at e'
      · exact e'
      · cases e'
  · have hk : k < s.length := by
      have := (List.getElem?_eq_some_iff.mp e1).1
      simp at this; omega
    rw [List.getElem?_take_of_lt hk] at e1 e2
    have ob := C'.obs k a o e1 e2
    have hl : lowO s.length o = true := by
      rcases c k hk with q | ⟨o', q, l⟩
      · rw [e2] at q
        exact C.lows q.symm
      · rw [e2] at q; cases q; exact l
    have nn : M' a = none → M'' a = none := fun h1 => by
      show (if M' a ≠ none then M' a else _) = none
      rw [if_neg (by rw [h1]; simp), if_neg]
      rintro ⟨j, ds', q1, q2, _⟩
      have := uniq j k a q2 e1
      omega
    cases o with
    | dead => exact ob
    | lst ds =>
      obtain ⟨h1, vs, h2, h3⟩ := ob
      exact ⟨nn h1, vs, h2, (h3.low hl).mono ex fun _ _ q => q⟩
    | ins c ds =>
      obtain ⟨h1, dx, vs, h2, h3⟩ := ob
      exact ⟨nn h1, dx, vs, h2, (h3.low hl).mono ex fun _ _ q => q⟩
    | dic kvs =>
      obtain ⟨h1, h0, xs, vs, h2, h3⟩ := ob
      exact ⟨nn h1, h0, xs, vs, h2, ⟨h3.keys, h3.nd, fun x hx => ⟨(h3.key x hx).1.mono ex, (h3.key x hx).2⟩, h3.vals, (h3.reps.low hl).mono ex fun _ _ q => q⟩⟩
  · have hk : k < s.length := by rw [← C.len]; exact (List.getElem?_eq_some_iff.mp h).1
    rw [List.getElem?_take_of_lt hk]
    exact t.ii k a h
  · have e' : (if M' a ≠ none then M' a else if (∃ (k : Nat) (ds : List D), s.length ≤ k ∧ ι'[k]? = some a ∧ s'[k]? = some (.lst ds)) then H' a else none) ≠ none := h
    split at e'
    · rename_i q; exact t.mn a q
    · split at e'
      · rename_i q
        obtain ⟨k, ds, _, q2, _⟩ := q
        exact (t.im a (List.mem_of_getElem? q2)).elim (fun z => .inr (.inl z)) fun z => .inr (.inr z)
      · exact absurd rfl e'
end Fl
set_option Elab.async false
set_option linter.all false
set_option maxRecDepth 100000
namespace Fl
open PySem PySem.Spec PyProof.Rows L2
/-! ### what comes of it -/
inductive O (α : Type) where
  | stuck | val (a : α) (s : Sto) | exc (c : Nat) (s : Sto)
def O.bind {α β : Type} : O α → (α → Sto → O β) → O β
  | .stuck, _ => .stuck
  | .val a s, f => f a s
  | .exc c s, _ => .exc c s
@[simp] theorem O.bind_stuck {α β : Type} {f : α → Sto → O β} : (O.stuck : O α).bind f = .stuck := rfl
@[simp] theorem O.bind_val {α β : Type} {f : α → Sto → O β} {a : α} {s : Sto} : (O.val a s).bind f = f a s := rfl
@[simp] theorem O.bind_exc {α β : Type} {f : α → Sto → O β} {c : Nat} {s : Sto} : (O.exc c s : O α).bind f = .exc c s := rfl
inductive OS where
  | stuck | nx (δ : Sl) (s : Sto) | bk (δ : Sl) (s : Sto) | ct (δ : Sl) (s : Sto) | rt (d : D) (s : Sto) | exc (c : Nat) (δ : Sl) (s : Sto)
def O.go {α : Type} (o : O α) (δ : Sl) (k : α → Sto → OS) : OS := match o with
  | .stuck => .stuck
  | .val a s => k a s
  | .exc c s => .exc c δ s
@[simp] theorem O.go_stuck {α : Type} {δ : Sl} {f : α → Sto → OS} : (O.stuck : O α).go δ f = .stuck := rfl
@[simp] theorem O.go_val {α : Type} {δ : Sl} {f : α → Sto → OS} {a : α} {s : Sto} : (O.val a s).go δ f = f a s := rfl
@[simp] theorem O.go_exc {α : Type} {δ : Sl} {f : α → Sto → OS} {c : Nat} {s : Sto} : (O.exc c s : O α).go δ f = .exc c δ s := rfl
def OS.then (o : OS) (k : Sl → Sto → OS) : OS := match o with
  | .nx δ s => k δ s
  | o => o
@[simp] theorem OS.then_nx {k : Sl → Sto → OS} {δ : Sl} {s : Sto} : (OS.nx δ s).then k = k δ s := rfl
@[simp] theorem OS.then_stuck {k : Sl → Sto → OS} : OS.stuck.then k = .stuck := rfl
@[simp] theorem OS.then_bk {k : Sl → Sto → OS} {δ : Sl} {s : Sto} : (OS.bk δ s).then k = .bk δ s := rfl
@[simp] theorem OS.then_ct {k : Sl → Sto → OS} {δ : Sl} {s : Sto} : (OS.ct δ s).then k = .ct δ s := rfl
@[simp] theorem OS.then_rt {k : Sl → Sto → OS} {d : D} {s : Sto} : (OS.rt d s).then k = .rt d s := rfl
@[simp] theorem OS.then_exc {k : Sl → Sto → OS} {c : Nat} {δ : Sl} {s : Sto} : (OS.exc c δ s).then k = .exc c δ s := rfl
abbrev EF := Sl → Sto → O D
abbrev AF := Sl → Sto → O (List D)
abbrev BF := Sl → Sto → O Bool
abbrev SF := Sl → Sto → OS
abbrev GF := D → Sl → Sto → O Sl
abbrev FF := List D → Sto → O D
/-! ### what a reading owes -/
section
variable {K : PySem.W.Frag} {α β γ ζ : Type} {cl : Nat → Value}
def RepS (K : PySem.W.Frag) (M : Hp) (ι : List Addr) (δ : Sl) (σ : L2.St) : Prop := σ.length = δ.length ∧ ∀ (i : Nat) (d : D), δ[i]? = some (some d) → ∃ v, σ[i]? = some (some v) ∧ Rep K M ι d v
theorem RepS.step {M M' : Hp} {ι ι' : List Addr} {H H' : Hp} {δ : Sl} {σ : L2.St} (t : Step M ι H M' ι' H') (h : RepS K M ι δ σ) : RepS K M' ι' δ σ := ⟨h.1, fun i d e => by
  obtain ⟨v, h1, h2⟩ := h.2 i d e
  exact ⟨v, h1, h2.step t⟩⟩
theorem RepS.set {M : Hp} {ι : List Addr} {δ : Sl} {σ : L2.St} {d : D} {v : V} (h : RepS K M ι δ σ) (r : Rep K M ι d v) (i : Nat) : RepS K M ι (δ.set i (some d)) (σ.set i (some v)) := by
  refine ⟨by simp [h.1], fun j e q => ?_⟩
  by_cases hj : j = i
  · subst hj
    by_cases hl : j < δ.length
    · rw [List.getElem?_set_self hl] at q; cases q
      exact ⟨v, List.getElem?_set_self (by rw [h.1]; exact hl), r⟩
    · rw [List.getElem?_eq_none (by simpa using hl)] at q; cases q
  · rw [List.getElem?_set_ne (Ne.symm hj)] at q ⊢
    exact h.2 j e q
abbrev Car (α β : Type) := Hp → List Addr → α → β → Prop
def Post (K : PySem.W.Frag) (C : Car α β) (Wx : Nat → Hp → Prop) (M : Hp) (ι : List Addr) (H : Hp) : O α → (β → Hp → Prop) → Prop
  | .stuck, _ => False
  | .val a s, Q => ∀ M' ι' H' b, Step M ι H M' ι' H' → Conc K M' ι' s H' → C M' ι' a b → Q b H'
  | .exc c s, _ => ∀ M' ι' H', Step M ι H M' ι' H' → Conc K M' ι' s H' → Wx c H'
theorem Post.now {C : Car α β} {Wx : Nat → Hp → Prop} {M : Hp} {ι : List Addr} {H : Hp} {a : α} {b : β} {s : Sto} {Q : β → Hp → Prop} (h : Post K C Wx M ι H (.val a s) Q) (c : Conc K M ι s H) (r : C M ι a b) : Q b H := h M ι H b Step.refl c r
theorem Post.mono {C : Car α β} {Wx : Nat → Hp → Prop} {M : Hp} {ι : List Addr} {H : Hp} {o : O α} {Q Q' : β → Hp → Prop} (h : Post K C Wx M ι H o Q) (q : ∀ b H', Q b H' → Q' b H') : Post K C Wx M ι H o Q' := by
  cases o with
  | stuck => exact h
  | val a s => exact fun M' ι' H' b t c r => q b H' (h M' ι' H' b t c r)
  | exc c s => exact h
theorem Post.step {C : Car α β} {Wx : Nat → Hp → Prop} {M M1 : Hp} {ι ι1 : List Addr} {H H1 : Hp} {o : O α} {Q : β → Hp → Prop} (h : Post K C Wx M ι H o Q) (t : Step M ι H M1 ι1 H1) : Post K C Wx M1 ι1 H1 o Q := by
  cases o with
  | stuck => exact h
  | val a s => exact fun M' ι' H' b t' c r => h M' ι' H' b (t.trans t') c r
  | exc c s => exact fun M' ι' H' t' q => h M' ι' H' (t.trans t') q
/-- what stands behind the first of two -/
structure Mid (K : PySem.W.Frag) (C : Car α β) (C2 : Car γ ζ) (Wx : Nat → Hp → Prop) (M : Hp) (ι : List Addr) (H : Hp) (k : α → Sto → O γ) (Q : ζ → Hp → Prop) (b : β) (H' : Hp) : Prop where
  ex : ∃ M' ι' a s', Step M ι H M' ι' H' ∧ Conc K M' ι' s' H' ∧ C M' ι' a b ∧ Post K C2 Wx M' ι' H' (k a s') Q
theorem Post.bind (C : Car α β) {C2 : Car γ ζ} {Wx : Nat → Hp → Prop} {M : Hp} {ι : List Addr} {H : Hp} {o : O α} {k : α → Sto → O γ} {Q : ζ → Hp → Prop} (h : Post K C2 Wx M ι H (o.bind k) Q) : Post K C Wx M ι H o (Mid K C C2 Wx M ι H k Q) := by
  cases o with
  | stuck => exact h
  | val a s => exact fun M' ι' H' b t c r => ⟨M', ι', a, s, t, c, r, Post.step h t⟩
  | exc c s => exact h
abbrev CD (K : PySem.W.Frag) : Car D V := Rep K
abbrev CL (K : PySem.W.Frag) (f : D → V → Prop) : Car (List D) (List V) := fun _ _ _ _ => True
theorem Reps.step {M M' : Hp} {ι ι' : List Addr} {H H' : Hp} {ds : List D} {vs : List V} (t : Step M ι H M' ι' H') (h : Reps K M ι ds vs) : Reps K M' ι' ds vs := h.mono t.mm t.ii
abbrev CB : Car Bool Bool := fun _ _ a b => b = a
/-- the store's and the slots' data, and what f makes of them -/
def At (K : PySem.W.Frag) (C : Car α β) (Wx : Nat → Hp → Prop) (f : Sl → Sto → O α) (σ : L2.St) (H : Hp) (Q : β → Hp → Prop) : Prop :=
  ∃ M ι δ s, Conc K M ι s H ∧ RepS K M ι δ σ ∧ Post K C Wx M ι H (f δ s) Q
abbrev wx (cl : Nat → Value) (W : WX) (σ : L2.St) : Nat → Hp → Prop := fun c H => W (cl c) none σ H
def rdE (K : PySem.W.Frag) (cl : Nat → Value) (W : WX) (f : EF) : TE := fun σ H Q => At K (Rep K) (wx cl W σ) f σ H Q
def rdA (K : PySem.W.Frag) (cl : Nat → Value) (W : WX) (f : AF) : TA := fun σ H Q => At K (Reps K) (wx cl W σ) f σ H Q
def rdT (K : PySem.W.Frag) (cl : Nat → Value) (W : WX) (f : BF) : TT := fun σ H Q => At K CB (wx cl W σ) f σ H Q
def rdG (K : PySem.W.Frag) (g : GF) : TG := fun v σ H Q => ∃ M ι δ s d, Conc K M ι s H ∧ RepS K M ι δ σ ∧ Rep K M ι d v ∧ Post K (RepS K) (fun _ _ => False) M ι H (g d δ s) Q
def PostS (K : PySem.W.Frag) (cl : Nat → Value) (W : WX) (D : Ends) (M : Hp) (ι : List Addr) (H : Hp) : OS → Prop
  | .stuck => False
  | .nx δ s => ∀ M' ι' H' σ', Step M ι H M' ι' H' → Conc K M' ι' s H' → RepS K M' ι' δ σ' → D.nx σ' H'
  | .bk δ s => ∀ M' ι' H' σ', Step M ι H M' ι' H' → Conc K M' ι' s H' → RepS K M' ι' δ σ' → D.bk σ' H'
  | .ct δ s => ∀ M' ι' H' σ', Step M ι H M' ι' H' → Conc K M' ι' s H' → RepS K M' ι' δ σ' → D.ct σ' H'
  | .rt d s => ∀ M' ι' H' v, Step M ι H M' ι' H' → Conc K M' ι' s H' → Rep K M' ι' d v → D.rt v H'
  | .exc c δ s => ∀ M' ι' H' σ', Step M ι H M' ι' H' → Conc K M' ι' s H' → RepS K M' ι' δ σ' → W (cl c) none σ' H'
def rdS (K : PySem.W.Frag) (cl : Nat → Value) (W : WX) (f : SF) : TS := fun D σ H => ∃ M ι δ s, Conc K M ι s H ∧ RepS K M ι δ σ ∧ PostS K cl W D M ι H (f δ s)
theorem PostS.step {W : WX} {D : Ends} {M M1 : Hp} {ι ι1 : List Addr} {H H1 : Hp} {o : OS} (h : PostS K cl W D M ι H o) (t : Step M ι H M1 ι1 H1) : PostS K cl W D M1 ι1 H1 o := by
  cases o with
  | stuck => exact h
  | nx δ s => exact fun M' ι' H' σ' t' c r => h M' ι' H' σ' (t.trans t') c r
  | bk δ s => exact fun M' ι' H' σ' t' c r => h M' ι' H' σ' (t.trans t') c r
  | ct δ s => exact fun M' ι' H' σ' t' c r => h M' ι' H' σ' (t.trans t') c r
  | rt d s => exact fun M' ι' H' σ' t' c r => h M' ι' H' σ' (t.trans t') c r
  | exc c δ s => exact fun M' ι' H' σ' t' c r => h M' ι' H' σ' (t.trans t') c r
/-- a value, then a statement's rest -/
structure MidS (K : PySem.W.Frag) (cl : Nat → Value) (C : Car α β) (W : WX) (D : Ends) (M : Hp) (ι : List Addr) (H : Hp) (k : α → Sto → OS) (b : β) (H' : Hp) : Prop where
  ex : ∃ M' ι' a s', Step M ι H M' ι' H' ∧ Conc K M' ι' s' H' ∧ C M' ι' a b ∧ PostS K cl W D M' ι' H' (k a s')
theorem PostS.go (C : Car α β) {W : WX} {D : Ends} {M : Hp} {ι : List Addr} {H : Hp} {o : O α} {δ : Sl} {σ : L2.St} {k : α → Sto → OS} (S : RepS K M ι δ σ) (h : PostS K cl W D M ι H (o.go δ k)) : Post K C (wx cl W σ) M ι H o (MidS K cl C W D M ι H k) := by
  cases o with
  | stuck => exact h
  | val a s => exact fun M' ι' H' b t c r => ⟨M', ι', a, s, t, c, r, PostS.step h t⟩
  | exc c s => exact fun M' ι' H' t c => h M' ι' H' σ t c (S.step t)
end
/-! ### judgements -/
section
variable {X : Cx} {cl : Nat → Value} {W : WX}
abbrev JE (X : Cx) (cl : Nat → Value) (W : WX) (e : Expr) (f : EF) : Prop := PE X e (rdE X.K cl W f)
abbrev JA (X : Cx) (cl : Nat → Value) (W : WX) (es : List Expr) (f : AF) : Prop := PA X es (rdA X.K cl W f)
abbrev JT (X : Cx) (cl : Nat → Value) (W : WX) (e : Expr) (f : BF) : Prop := PT X e (rdT X.K cl W f)
abbrev JW (X : Cx) (cl : Nat → Value) (W : WX) (e : Expr) (f : BF) : Prop := PW X e (rdT X.K cl W f)
abbrev JG (X : Cx) (e : Expr) (g : GF) : Prop := PG X e (rdG X.K g)
abbrev JS (X : Cx) (cl : Nat → Value) (W : WX) (st : Stmt) (f : SF) : Prop := PS X st (rdS X.K cl W f)
abbrev JSs (X : Cx) (cl : Nat → Value) (W : WX) (st : List Stmt) (f : SF) : Prop := PSs X st (rdS X.K cl W f)
theorem _root_.L2.PE.imp {e : Expr} {t t' : TE} (h : PE X e t) (i : ∀ σ H Q, t' σ H Q → t σ H Q) : PE X e t' := ⟨fun pins s σ H Q I q => h.run pins s σ H Q I (i σ H Q q)⟩
theorem _root_.L2.PT.imp {e : Expr} {t t' : TT} (h : PT X e t) (i : ∀ σ H Q, t' σ H Q → t σ H Q) : PT X e t' := ⟨fun pins s σ H Q I q => h.run pins s σ H Q I (i σ H Q q)⟩
theorem _root_.L2.PW.imp {e : Expr} {t t' : TT} (h : PW X e t) (i : ∀ σ H Q, t' σ H Q → t σ H Q) : PW X e t' := ⟨fun wh pins s σ H Q I q => h.run wh pins s σ H Q I (i σ H Q q)⟩
theorem _root_.L2.PA.imp {e : List Expr} {t t' : TA} (h : PA X e t) (i : ∀ σ H Q, t' σ H Q → t σ H Q) : PA X e t' := ⟨fun pos pins s σ H Q I q => h.run pos pins s σ H Q I (i σ H Q q)⟩
theorem _root_.L2.PG.imp {e : Expr} {t t' : TG} (h : PG X e t) (i : ∀ v σ H Q, t' v σ H Q → t v σ H Q) : PG X e t' := ⟨fun pins s σ H v u Q I r q => h.run pins s σ H v u Q I r (i v σ H Q q)⟩
theorem _root_.L2.PS.imp {e : Stmt} {t t' : TS} (h : PS X e t) (i : ∀ D σ H, t' D σ H → t D σ H) : PS X e t' := ⟨fun pins s σ H D I q => h.run pins s σ H D I (i D σ H q)⟩
theorem _root_.L2.PSs.imp {e : List Stmt} {t t' : TS} (h : PSs X e t) (i : ∀ D σ H, t' D σ H → t D σ H) : PSs X e t' := ⟨fun pins s σ H D I q => h.run pins s σ H D I (i D σ H q)⟩
/-! ### names, constants -/
def varF (i : Nat) : EF := fun δ s => match δ[i]? with
  | some (some d) => .val d s
  | _ => .stuck
theorem je_var (i : Nat) {x : Str} {pos : Pos} (hN : X.N[i]? = some x := by rfl) (hv : Vis X.env.scope x := by first | exact Or.inl rfl | exact Or.inr (Or.inl rfl) | exact Or.inr (Or.inr rfl)) (hd : (x == ("__debug__" : Str)) = false := by decide)
    (hcd : (x == ("__classdict__" : Str)) = false := by decide) : JE X cl W (.Name x pos) (varF i) := (pe_var hN hv hd hcd).imp fun σ H Q h => by
  obtain ⟨M, ι, δ, s, C, S, P⟩ := h
  unfold varF at P
  split at P
  · rename_i d e
    obtain ⟨v, h1, h2⟩ := S.2 i d e
    exact ⟨v, h1, P.now C h2⟩
  · exact P.elim
def cF (d : D) : EF := fun _ s => .val d s
theorem je_cst {e : Expr} {v : V} {d : D} (h : PE X e (tC v)) (r : ∀ M ι, Rep X.K M ι d v) : JE X cl W e (cF d) := h.imp fun σ H Q h => by
  obtain ⟨M, ι, δ, s, C, S, P⟩ := h
  exact Post.now (C := Rep X.K) P C (r M ι)
theorem je_int {i : Int} {j pos} : JE X cl W (.Constant (.int i) j pos) (cF (.int i)) := je_cst pe_int fun _ _ => Rep.of (by unfold RepF; rfl)
theorem je_bl {b : Bool} {j pos} : JE X cl W (.Constant (.bool b) j pos) (cF (.bl b)) := je_cst pe_bl fun _ _ => Rep.of (by unfold RepF; rfl)
theorem je_non {j pos} : JE X cl W (.Constant .none j pos) (cF .non) := je_cst pe_non fun _ _ => Rep.of (by unfold RepF; rfl)
theorem je_str (cs : List Nat) {x : Str} {j pos} (h : x = ⟨cs.toArray⟩ := by decide +kernel) (h2 : okS cs = true := by decide) : JE X cl W (.Constant (.str x) j pos) (cF (.str cs)) := je_cst pe_str fun _ _ => Rep.of (by unfold RepF; exact ⟨by rw [h], h2⟩)
/-- a module's constant -/
theorem je_glob {x : Str} {d : D} {v : V} {u : Value} {pos : Pos} (hg : Gl X x) (hm : X.mg x = some u) (r : RelV v u) (hr : ∀ M ι, Rep X.K M ι d v) (hd : (x == ("__debug__" : Str)) = false := by decide) : JE X cl W (.Name x pos) (cF d) := je_cst (pe_glob hg hm r hd) hr
/-- a built-in class as a value -/
theorem je_ty {x : Str} {T : String} {pos : Pos} (hg : Gl X x) (hm : X.mg x = none) (hv : bootBuiltins x = some (.type T)) (hn : x ≠ "__name__" := by decide) (hd : (x == ("__debug__" : Str)) = false := by decide) : JE X cl W (.Name x pos) (cF (.ty T)) :=
  je_cst (pe_bltn (v := .ty T) hg hm hv rfl hn hd) fun _ _ => Rep.of (by unfold RepF; rfl)
/-! ### operations on values -/
abbrev Op1 := Sto → D → O D
abbrev Op2 := Sto → D → D → O D
def Ok2 (K : PySem.W.Frag) (r : R2) (g : Op2) : Prop := ∀ (Wx : Nat → Hp → Prop) (M : Hp) (ι : List Addr) (s : Sto) (H : Hp) (x y : D) (u v : V) (Q : VK), Conc K M ι s H → Rep K M ι x u → Rep K M ι y v → Post K (Rep K) Wx M ι H (g s x y) Q → r u v H Q
def Ok1 (K : PySem.W.Frag) (r : V → Hp → VK → Prop) (g : Op1) : Prop := ∀ (Wx : Nat → Hp → Prop) (M : Hp) (ι : List Addr) (s : Sto) (H : Hp) (x : D) (u : V) (Q : VK), Conc K M ι s H → Rep K M ι x u → Post K (Rep K) Wx M ι H (g s x) Q → r u H Q
def OkN (K : PySem.W.Frag) (r : List V → Hp → VK → Prop) (g : Sto → List D → O D) : Prop := ∀ (Wx : Nat → Hp → Prop) (M : Hp) (ι : List Addr) (s : Sto) (H : Hp) (xs : List D) (us : List V) (Q : VK), Conc K M ι s H → Reps K M ι xs us → Post K (Rep K) Wx M ι H (g s xs) Q → r us H Q
def bin (g : Op2) (fa fb : EF) : EF := fun δ s => (fa δ s).bind fun x s1 => (fb δ s1).bind fun y s2 => g s2 x y
def una (g : Op1) (fa : EF) : EF := fun δ s => (fa δ s).bind fun x s1 => g s1 x
def nil : AF := fun _ s => .val [] s
def con (fa : EF) (fr : AF) : AF := fun δ s => (fa δ s).bind fun x s1 => (fr δ s1).bind fun xs s2 => .val (x :: xs) s2
def fnB (g : Sto → List D → O D) (fa : AF) : EF := fun δ s => (fa δ s).bind fun xs s1 => g s1 xs
variable {a b e : Expr} {es : List Expr} {fa fb : EF} {fr : AF} {pos : Pos}
theorem At.bind {α β γ ζ : Type} {K : PySem.W.Frag} (C1 : Car α β) {C2 : Car γ ζ} {Wx : Nat → Hp → Prop} {f : Sl → Sto → O α} {k : Sl → α → Sto → O γ} {σ : L2.St} {H : Hp} {Q : ζ → Hp → Prop} (h : At K C2 Wx (fun δ s => (f δ s).bind (k δ)) σ H Q) :
    At K C1 Wx f σ H fun b H' => ∃ M ι δ s a, Conc K M ι s H' ∧ RepS K M ι δ σ ∧ C1 M ι a b ∧ Post K C2 Wx M ι H' (k δ a s) Q := by
  obtain ⟨M, ι, δ, s, C, S, P⟩ := h
  refine ⟨M, ι, δ, s, C, S, Post.mono (Post.bind C1 P) fun b H' m => ?_⟩
  obtain ⟨M', ι', a, s', t, C', r, P'⟩ := m.ex
  exact ⟨M', ι', δ, s', a, C', S.step t, r, P'⟩
theorem rd_bin {K : PySem.W.Frag} {r : R2} {g : Op2} (ok : Ok2 K r g) (σ : L2.St) (H : Hp) (Q : VK) (h : rdE K cl W (bin g fa fb) σ H Q) : tOp r (rdE K cl W fa) (rdE K cl W fb) σ H Q := by
  obtain ⟨M, ι, δ, s, C, S, P⟩ := h
  refine ⟨M, ι, δ, s, C, S, Post.mono (Post.bind (Rep K) P) fun u H1 m => ?_⟩
  obtain ⟨M1, ι1, x, s1, t1, C1, r1, P1⟩ := m.ex
  refine ⟨M1, ι1, δ, s1, C1, S.step t1, Post.mono (Post.bind (Rep K) P1) fun v H2 m => ?_⟩
  obtain ⟨M2, ι2, y, s2, t2, C2, r2, P2⟩ := m.ex
  exact ok _ M2 ι2 s2 H2 x y u v Q C2 (r1.step t2) r2 P2
theorem rd_una {K : PySem.W.Frag} {r : V → Hp → VK → Prop} {g : Op1} (ok : Ok1 K r g) (σ : L2.St) (H : Hp) (Q : VK) (h : rdE K cl W (una g fa) σ H Q) : tUn r (rdE K cl W fa) σ H Q := by
  obtain ⟨M, ι, δ, s, C, S, P⟩ := h
  refine ⟨M, ι, δ, s, C, S, Post.mono (Post.bind (Rep K) P) fun u H1 m => ?_⟩
  obtain ⟨M1, ι1, x, s1, t1, C1, r1, P1⟩ := m.ex
  exact ok _ M1 ι1 s1 H1 x u Q C1 r1 P1
theorem je_op {op : Operator} {r : R2} {g : Op2} (ho : OpR X (binaryOp op) r) (ok : Ok2 X.K r g) (ha : JE X cl W a fa) (hb : JE X cl W b fb) : JE X cl W (.BinOp a op b pos) (bin g fa fb) := (pe_op ho ha hb).imp (rd_bin ok)
theorem je_un {op : UnaryOp} {r : V → Hp → VK → Prop} {g : Op1} (ho : UnR X (unaryOp op) r) (ok : Ok1 X.K r g) (ha : JE X cl W a fa) : JE X cl W (.UnaryOp op a pos) (una g fa) := (pe_un ho ha).imp (rd_una ok)
theorem je_cmp {op : CmpOp} {r : R2} {g : Op2} (ho : OpR X (compareOp op) r) (ok : Ok2 X.K r g) (ha : JE X cl W a fa) (hb : JE X cl W b fb) (hm : behindInMarks op b = false) : JE X cl W (.Compare a [op] [b] pos) (bin g fa fb) := (pe_cmpR ho ha hb hm).imp (rd_bin ok)
theorem je_ix {r : R2} {g : Op2} (hr : IxR X r) (ok : Ok2 X.K r g) (ha : JE X cl W a fa) (hb : JE X cl W b fb) (hs : PlainIx b) : JE X cl W (.Subscript a b pos) (bin g fa fb) := (pe_ix hr ha hb hs).imp (rd_bin ok)
/-- a < b < c -/
def chain (g g' : Op2) (fa fb fc : EF) : EF := fun δ s => (fa δ s).bind fun x s1 => (fb δ s1).bind fun y s2 => (g s2 x y).bind fun z s3 => match z with
  | .bl true => (fc δ s3).bind fun w s4 => g' s4 y w
  | .bl false => .val (.bl false) s3
  | _ => .stuck
theorem rd_chain {K : PySem.W.Frag} {fc : EF} {r r' : R2} {g g' : Op2} (ok : Ok2 K r g) (ok' : Ok2 K r' g') (σ : L2.St) (H : Hp) (Q : VK) (h : rdE K cl W (chain g g' fa fb fc) σ H Q) : tChain r r' (rdE K cl W fa) (rdE K cl W fb) (rdE K cl W fc) σ H Q := by
  obtain ⟨M, ι, δ, s, C, S, P⟩ := h
  refine ⟨M, ι, δ, s, C, S, Post.mono (Post.bind (Rep K) P) fun u H1 m => ?_⟩
  obtain ⟨M1, ι1, x, s1, t1, C1, r1, P1⟩ := m.ex
  refine ⟨M1, ι1, δ, s1, C1, S.step t1, Post.mono (Post.bind (Rep K) P1) fun v H2 m => ?_⟩
  obtain ⟨M2, ι2, y, s2, t2, C2, r2, P2⟩ := m.ex
  refine ok _ M2 ι2 s2 H2 x y u v _ C2 (r1.step t2) r2 (Post.mono (Post.bind (Rep K) P2) fun z H3 m => ?_)
  obtain ⟨M3, ι3, w, s3, t3, C3, r3, P3⟩ := m.ex
  cases w with
  | bl k =>
    unfold Rep RepF at r3
    subst r3
    refine ⟨k, rfl, ?_⟩
    cases k with
    | true =>
      refine iteT ⟨M3, ι3, δ, s3, C3, S.step ((t1.trans t2).trans t3), Post.mono (Post.bind (Rep K) P3) fun v' H4 m => ?_⟩
      obtain ⟨M4, ι4, y', s4, t4, C4, r4, P4⟩ := m.ex
      exact ok' _ M4 ι4 s4 H4 y y' v v' Q C4 (r2.step (t3.trans t4)) r4 P4
    | false => exact iteF (Post.now (C := Rep K) P3 C3 (Rep.of (by unfold RepF; rfl)))
  | _ => exact P3.elim
theorem je_chain {c : Expr} {fc : EF} {op op' : CmpOp} {r r' : R2} {g g' : Op2} (ho : OpR X (compareOp op) r) (ho' : OpR X (compareOp op') r') (ok : Ok2 X.K r g) (ok' : Ok2 X.K r' g') (ha : JE X cl W a fa) (hb : JE X cl W b fb) (hc : JE X cl W c fc) (hm : lastMarks [op, op'] [b, c] = false := by with_unfolding_all rfl) : JE X cl W (.Compare a [op, op'] [b, c] pos) (chain g g' fa fb fc) := (pe_chain ho ho' ha hb hc hm).imp (rd_chain ok ok')
theorem ja_nil : JA X cl W [] nil := pa_nil.imp fun σ H Q h => by
  obtain ⟨M, ι, δ, s, C, S, P⟩ := h
  exact Post.now (C := Reps X.K) P C .nil
theorem ja_cons (ha : JE X cl W e fa) (hr : JA X cl W es fr) (hs : starEach (e :: es) X.env = (false, eval e X.env) :: starEach es X.env := by rfl) : JA X cl W (e :: es) (con fa fr) := (pa_cons ha hr hs).imp fun σ H Q h => by
  obtain ⟨M, ι, δ, s, C, S, P⟩ := h
  refine ⟨M, ι, δ, s, C, S, Post.mono (Post.bind (Rep X.K) P) fun u H1 m => ?_⟩
  obtain ⟨M1, ι1, x, s1, t1, C1, r1, P1⟩ := m.ex
  refine ⟨M1, ι1, δ, s1, C1, S.step t1, Post.mono (Post.bind (Reps X.K) P1) fun v H2 m => ?_⟩
  obtain ⟨M2, ι2, y, s2, t2, C2, r2, P2⟩ := m.ex
  exact Post.now (C := Reps X.K) P2 C2 (.cons (r1.step t2) r2)
theorem rd_fnB {K : PySem.W.Frag} {r : List V → Hp → VK → Prop} {g : Sto → List D → O D} (ok : OkN K r g) (σ : L2.St) (H : Hp) (Q : VK) (h : rdE K cl W (fnB g fr) σ H Q) : tCB r (rdA K cl W fr) σ H Q := by
  obtain ⟨M, ι, δ, s, C, S, P⟩ := h
  refine ⟨M, ι, δ, s, C, S, Post.mono (Post.bind (Reps K) P) fun u H1 m => ?_⟩
  obtain ⟨M1, ι1, x, s1, t1, C1, r1, P1⟩ := m.ex
  exact ok _ M1 ι1 s1 H1 x u Q C1 r1 P1
theorem je_callB {id : String} {x : Str} {p : Pos} {r : List V → Hp → VK → Prop} {g : Sto → List D → O D} (hc : CallR X (.builtin id) r) (ok : OkN X.K r g) (hg : Gl X x) (hm : X.mg x = none) (hv : bootBuiltins x = some (.builtin id)) (ha : JA X cl W (e :: es) fr) (hn : x ≠ "__name__" := by decide) (hdb : (x == ("__debug__" : Str)) = false := by decide)
    (he : starEach (e :: es) X.env = (false, eval e X.env) :: starEach es X.env := by rfl) (hpl : (backTo pos (starEach es X.env)).any (·.1) = false := by rfl) : JE X cl W (.Call (.Name x p) (e :: es) [] pos) (fnB g fr) := (pe_callB hc hg hm hv ha hn hdb he hpl).imp (rd_fnB ok)
theorem je_callTy {T : String} {x : Str} {p : Pos} {r : List V → Hp → VK → Prop} {g : Sto → List D → O D} (hc : CallR X (.type T) r) (ok : OkN X.K r g) (hg : Gl X x) (hm : X.mg x = none) (hv : bootBuiltins x = some (.type T)) (ha : JA X cl W (e :: es) fr) (hn : x ≠ "__name__" := by decide) (hdb : (x == ("__debug__" : Str)) = false := by decide)
    (he : starEach (e :: es) X.env = (false, eval e X.env) :: starEach es X.env := by rfl) (hpl : (backTo pos (starEach es X.env)).any (·.1) = false := by rfl) : JE X cl W (.Call (.Name x p) (e :: es) [] pos) (fnB g fr) := (pe_callTy hc hg hm hv ha hn hdb he hpl).imp (rd_fnB ok)
/-- o.m(..) of a built-in type -/
def meB (g : Sto → D → List D → O D) (fa : EF) (fr : AF) : EF := fun δ s => (fa δ s).bind fun x s1 => (fr δ s1).bind fun xs s2 => g s2 x xs
def OkM (K : PySem.W.Frag) (T : String) (r : V → List V → Hp → VK → Prop) (g : Sto → D → List D → O D) : Prop := ∀ (Wx : Nat → Hp → Prop) (M : Hp) (ι : List Addr) (s : Sto) (H : Hp) (x : D) (u : V) (xs : List D) (us : List V) (Q : VK), Conc K M ι s H → Rep K M ι x u → Reps K M ι xs us → Post K (Rep K) Wx M ι H (g s x xs) Q → r u us H Q
/-- .. of that type where anything comes of it -/
def TyM (K : PySem.W.Frag) (T : String) (t : Sto → D → Bool) : Prop := ∀ (M : Hp) (ι : List Addr) (s : Sto) (H : Hp) (x : D) (u : V), Conc K M ι s H → Rep K M ι x u → t s x = true → tyV K T u H
def meB' (t : Sto → D → Bool) (g : Sto → D → List D → O D) (fa : EF) (fr : AF) : EF := fun δ s => (fa δ s).bind fun x s1 => if t s1 x = true then (fr δ s1).bind fun xs s2 => g s2 x xs else .stuck
theorem je_bm {name : Str} {T id : String} {apos cpos : Pos} {r : V → List V → Hp → VK → Prop} {t : Sto → D → Bool} {g : Sto → D → List D → O D} (pa : PlainAttrs T) (slot : Slot T name id) (hty : typeOf (.builtin id) = pure (.type "method_descriptor")) (hm : MtR X id r) (tm : TyM X.K T t) (ok : OkM X.K T r g) (ho : JE X cl W a fa) (ha : JA X cl W (e :: es) fr)
    (hbase : attributeBase a name X.env (eval a X.env) = eval a X.env := by rfl)
    (hfew : ((backTo cpos (starEach (e :: es) X.env)).all (fun x => !x.1) && (backToKw cpos (keywordEach [] X.env)).all (fun x => x.1.isSome)
      && decide ((e :: es).length + ([] : List Keyword).length + (if ([] : List Keyword).isEmpty then 0 else 1) < 30)) = true := by rfl)
    (hline : (apos.endLine == cpos.line) = true := by rfl) (hs : starEach (e :: es) X.env = (false, eval e X.env) :: starEach es X.env := by rfl) (hplain : (backTo cpos (starEach es X.env)).any (·.1) = false := by rfl) :
    JE X cl W (.Call (.Attribute a name apos) (e :: es) [] cpos) (meB' t g fa fr) := (pe_bm pa slot hty hm ho ha hbase hfew hline hs hplain).imp fun σ H Q h => by
  obtain ⟨M, ι, δ, s, C, S, P⟩ := h
  refine ⟨M, ι, δ, s, C, S, Post.mono (Post.bind (Rep X.K) P) fun u H1 m => ?_⟩
  obtain ⟨M1, ι1, x, s1, t1, C1, r1, P1⟩ := m.ex
  by_cases ht : t s1 x = true
  · rw [if_pos ht] at P1
    refine ⟨tm M1 ι1 s1 H1 x u C1 r1 ht, M1, ι1, δ, s1, C1, S.step t1, Post.mono (Post.bind (Reps X.K) P1) fun v H2 m => ?_⟩
    obtain ⟨M2, ι2, y, s2, t2, C2, r2, P2⟩ := m.ex
    exact ok _ M2 ι2 s2 H2 x u y v Q C2 (r1.step t2) r2 P2
  · rw [if_neg ht] at P1; exact P1.elim
theorem je_bm0 {name : Str} {T id : String} {apos cpos : Pos} {r : V → List V → Hp → VK → Prop} {t : Sto → D → Bool} {g : Sto → D → List D → O D} (pa : PlainAttrs T) (slot : Slot T name id) (hty : typeOf (.builtin id) = pure (.type "method_descriptor")) (hm : MtR X id r) (tm : TyM X.K T t) (ok : OkM X.K T r g) (ho : JE X cl W a fa)
    (hbase : attributeBase a name X.env (eval a X.env) = eval a X.env := by rfl) (hline : (apos.endLine == cpos.line) = true := by rfl) : JE X cl W (.Call (.Attribute a name apos) [] [] cpos) (meB' t g fa nil) := (pe_bm0 pa slot hty hm ho hbase hline).imp fun σ H Q h => by
  obtain ⟨M, ι, δ, s, C, S, P⟩ := h
  refine ⟨M, ι, δ, s, C, S, Post.mono (Post.bind (Rep X.K) P) fun u H1 m => ?_⟩
  obtain ⟨M1, ι1, x, s1, t1, C1, r1, P1⟩ := m.ex
  by_cases ht : t s1 x = true
  · rw [if_pos ht] at P1
    exact ⟨tm M1 ι1 s1 H1 x u C1 r1 ht, ok _ M1 ι1 s1 H1 x u [] [] Q C1 r1 .nil P1⟩
  · rw [if_neg ht] at P1; exact P1.elim
/-! ### tests -/
def tst (fa : EF) : BF := fun δ s => (fa δ s).bind fun x s1 => match x with
  | .bl b => .val b s1
  | _ => .stuck
theorem rd_tst {K : PySem.W.Frag} (σ : L2.St) (H : Hp) (Q : Bool → Hp → Prop) (h : rdT K cl W (tst fa) σ H Q) : rdE K cl W fa σ H fun x H' => ∃ k, x = .bl k ∧ Q k H' := by
  obtain ⟨M, ι, δ, s, C, S, P⟩ := h
  refine ⟨M, ι, δ, s, C, S, Post.mono (Post.bind (Rep K) P) fun u H1 m => ?_⟩
  obtain ⟨M1, ι1, x, s1, t1, C1, r1, P1⟩ := m.ex
  cases x with
  | bl k =>
    unfold Rep RepF at r1
    exact ⟨k, r1, Post.now (C := CB) P1 C1 rfl⟩
  | _ => exact P1.elim
theorem jt_val (h : JE X cl W e fa) (he : ∀ whole, isTrue e X.env whole = (do let v ← whole; standAt e.pos; holding [v] (truthy v)) := by intro _; rfl) : JT X cl W e (tst fa) := (pt_val h he).imp fun σ H Q h => rd_tst σ H Q h
theorem jt_cmp {op : CmpOp} {r : R2} {g : Op2} (ho : OpR X (compareOp op) r) (ok : Ok2 X.K r g) (ha : JE X cl W a fa) (hb : JE X cl W b fb) (hm : behindInMarks op b = false) : JT X cl W (.Compare a [op] [b] pos) (tst (bin g fa fb)) := (pt_cmpR ho ha hb hm).imp fun σ H Q h => rd_bin ok σ H _ (rd_tst σ H Q h)
theorem jt_chain {c : Expr} {fc : EF} {op op' : CmpOp} {r r' : R2} {g g' : Op2} (ho : OpR X (compareOp op) r) (ho' : OpR X (compareOp op') r') (ok : Ok2 X.K r g) (ok' : Ok2 X.K r' g') (ha : JE X cl W a fa) (hb : JE X cl W b fb) (hc : JE X cl W c fc) (hm : lastMarks [op, op'] [b, c] = false := by with_unfolding_all rfl) : JT X cl W (.Compare a [op, op'] [b, c] pos) (tst (chain g g' fa fb fc)) := (pt_chain ho ho' ha hb hc hm).imp fun σ H Q h => rd_chain ok ok' σ H _ (rd_tst σ H Q h)
variable {ta tb : BF} {rest : List Expr}
def andT (ta tb : BF) : BF := fun δ s => (ta δ s).bind fun b s1 => if b = true then tb δ s1 else .val false s1
def orT (ta tb : BF) : BF := fun δ s => (ta δ s).bind fun b s1 => if b = true then .val true s1 else tb δ s1
def notT (ta : BF) : BF := fun δ s => (ta δ s).bind fun b s1 => .val (!b) s1
theorem jw_and1 (ha : JT X cl W a ta) : JW X cl W (.BoolOp .And [a] pos) ta := pw_and1 ha
theorem jw_or1 (ha : JT X cl W a ta) : JW X cl W (.BoolOp .Or [a] pos) ta := pw_or1 ha
theorem jw_and (ha : JT X cl W a ta) (hb : JW X cl W (.BoolOp .And (b :: rest) pos) tb) : JW X cl W (.BoolOp .And (a :: b :: rest) pos) (andT ta tb) := (pw_and ha hb).imp fun σ H Q h => by
  obtain ⟨M, ι, δ, s, C, S, P⟩ := h
  refine ⟨M, ι, δ, s, C, S, Post.mono (Post.bind CB P) fun u H1 m => ?_⟩
  obtain ⟨M1, ι1, x, s1, t1, C1, rfl, P1⟩ := m.ex
  cases u with
  | true => exact iteT ⟨M1, ι1, δ, s1, C1, S.step t1, P1⟩
  | false => exact iteF (Post.now (C := CB) P1 C1 rfl)
theorem jw_or (ha : JT X cl W a ta) (hb : JW X cl W (.BoolOp .Or (b :: rest) pos) tb) : JW X cl W (.BoolOp .Or (a :: b :: rest) pos) (orT ta tb) := (pw_or ha hb).imp fun σ H Q h => by
  obtain ⟨M, ι, δ, s, C, S, P⟩ := h
  refine ⟨M, ι, δ, s, C, S, Post.mono (Post.bind CB P) fun u H1 m => ?_⟩
  obtain ⟨M1, ι1, x, s1, t1, C1, rfl, P1⟩ := m.ex
  cases u with
  | true => exact iteT (Post.now (C := CB) P1 C1 rfl)
  | false => exact iteF ⟨M1, ι1, δ, s1, C1, S.step t1, P1⟩
theorem jt_w (h : JW X cl W e ta) : JT X cl W e ta := h.pt
theorem jt_not (ha : JT X cl W a ta) : JT X cl W (.UnaryOp .Not a pos) (notT ta) := (pt_not ha).imp fun σ H Q h => by
  obtain ⟨M, ι, δ, s, C, S, P⟩ := h
  refine ⟨M, ι, δ, s, C, S, Post.mono (Post.bind CB P) fun u H1 m => ?_⟩
  obtain ⟨M1, ι1, x, s1, t1, C1, rfl, P1⟩ := m.ex
  exact Post.now (C := CB) P1 C1 rfl
/-- as values -/
def andE (fa fb : EF) : EF := fun δ s => (fa δ s).bind fun x s1 => match x with
  | .bl true => fb δ s1
  | .bl false => .val (.bl false) s1
  | _ => .stuck
def orE (fa fb : EF) : EF := fun δ s => (fa δ s).bind fun x s1 => match x with
  | .bl false => fb δ s1
  | .bl true => .val (.bl true) s1
  | _ => .stuck
def notE (fa : EF) : EF := fun δ s => (fa δ s).bind fun x s1 => match x with
  | .bl b => .val (.bl (!b)) s1
  | _ => .stuck
theorem je_one {op} (h : JE X cl W a fa) : JE X cl W (.BoolOp op [a] pos) fa := pe_one h
theorem je_and (ha : JE X cl W a fa) (hb : JE X cl W (.BoolOp .And (b :: rest) pos) fb) : JE X cl W (.BoolOp .And (a :: b :: rest) pos) (andE fa fb) := (pe_and ha hb).imp fun σ H Q h => by
  obtain ⟨M, ι, δ, s, C, S, P⟩ := h
  refine ⟨M, ι, δ, s, C, S, Post.mono (Post.bind (Rep X.K) P) fun u H1 m => ?_⟩
  obtain ⟨M1, ι1, x, s1, t1, C1, r1, P1⟩ := m.ex
  cases x with
  | bl k =>
    unfold Rep RepF at r1
    refine ⟨k, r1, ?_⟩
    cases k with
    | true => exact iteT ⟨M1, ι1, δ, s1, C1, S.step t1, P1⟩
    | false => exact iteF (Post.now (C := Rep X.K) P1 C1 (Rep.of (by unfold RepF; rfl)))
  | _ => exact P1.elim
theorem je_or (ha : JE X cl W a fa) (hb : JE X cl W (.BoolOp .Or (b :: rest) pos) fb) : JE X cl W (.BoolOp .Or (a :: b :: rest) pos) (orE fa fb) := (pe_or ha hb).imp fun σ H Q h => by
  obtain ⟨M, ι, δ, s, C, S, P⟩ := h
  refine ⟨M, ι, δ, s, C, S, Post.mono (Post.bind (Rep X.K) P) fun u H1 m => ?_⟩
  obtain ⟨M1, ι1, x, s1, t1, C1, r1, P1⟩ := m.ex
  cases x with
  | bl k =>
    unfold Rep RepF at r1
    refine ⟨k, r1, ?_⟩
    cases k with
    | true => exact iteT (Post.now (C := Rep X.K) P1 C1 (Rep.of (by unfold RepF; rfl)))
    | false => exact iteF ⟨M1, ι1, δ, s1, C1, S.step t1, P1⟩
  | _ => exact P1.elim
theorem je_not (ha : JE X cl W a fa) : JE X cl W (.UnaryOp .Not a pos) (notE fa) := (pe_not ha).imp fun σ H Q h => by
  obtain ⟨M, ι, δ, s, C, S, P⟩ := h
  refine ⟨M, ι, δ, s, C, S, Post.mono (Post.bind (Rep X.K) P) fun u H1 m => ?_⟩
  obtain ⟨M1, ι1, x, s1, t1, C1, r1, P1⟩ := m.ex
  cases x with
  | bl k =>
    unfold Rep RepF at r1
    exact ⟨k, r1, Post.now (C := Rep X.K) P1 C1 (Rep.of (by unfold RepF; rfl))⟩
  | _ => exact P1.elim
def iteE (ta : BF) (fa fb : EF) : EF := fun δ s => (ta δ s).bind fun b s1 => if b = true then fa δ s1 else fb δ s1
theorem je_ite {c : Expr} (hc : JT X cl W c ta) (ha : JE X cl W a fa) (hb : JE X cl W b fb) : JE X cl W (.IfExp c a b pos) (iteE ta fa fb) := (pe_ifExp hc ha hb).imp fun σ H Q h => by
  obtain ⟨M, ι, δ, s, C, S, P⟩ := h
  refine ⟨M, ι, δ, s, C, S, Post.mono (Post.bind CB P) fun u H1 m => ?_⟩
  obtain ⟨M1, ι1, x, s1, t1, C1, rfl, P1⟩ := m.ex
  cases u with
  | true => exact iteT ⟨M1, ι1, δ, s1, C1, S.step t1, P1⟩
  | false => exact iteF ⟨M1, ι1, δ, s1, C1, S.step t1, P1⟩
/-! ### displays -/
theorem lim_le {n : Nat} (h : n ≤ 16000000) : n ≤ sizeLine := Nat.le_trans h (by decide)
def tupE (fr : AF) : EF := fun δ s => (fr δ s).bind fun xs s1 => if flats xs = true ∧ xs.length ≤ 16000000 then .val (.tup xs) s1 else .stuck
def lstE (fr : AF) : EF := fun δ s => (fr δ s).bind fun xs s1 => if flats xs = true ∧ xs.length ≤ 16000000 then .val (.lst xs) s1 else .stuck
/-- a list of one's own -/
def ownE (fr : AF) : EF := fun δ s => (fr δ s).bind fun xs s1 => if xs.length ≤ 16000000 then .val (.ob s1.length) (s1 ++ [.lst xs]) else .stuck
theorem Post.laidT {K : PySem.W.Frag} {Wx : Nat → Hp → Prop} {M : Hp} {ι : List Addr} {H : Hp} {s : Sto} {xs : List D} {us : List V} {Q : VK} (P : Post K (Rep K) Wx M ι H (.val (.tup xs) s) Q) (C : Conc K M ι s H) (r : RepL K M xs us) {p : Addr} (hp : H p = none) : Q (.ref p) (upd H p (.tup us)) := by
  obtain ⟨C1, t1⟩ := C.laid (o := .tup us) hp
  exact P _ _ _ _ t1 C1 (Rep.of (by unfold RepF; exact ⟨p, us, rfl, .inl upd_same, r.step t1⟩))
theorem Post.laidL {K : PySem.W.Frag} {Wx : Nat → Hp → Prop} {M : Hp} {ι : List Addr} {H : Hp} {s : Sto} {xs : List D} {us : List V} {Q : VK} (P : Post K (Rep K) Wx M ι H (.val (.lst xs) s) Q) (C : Conc K M ι s H) (r : RepL K M xs us) {p : Addr} (hp : H p = none) : Q (.ref p) (upd H p (.lst us)) := by
  obtain ⟨C1, t1⟩ := C.laid (o := .lst us) hp
  exact P _ _ _ _ t1 C1 (Rep.of (by unfold RepF; exact ⟨p, us, rfl, upd_same, r.step t1⟩))
theorem Conc.owned {K : PySem.W.Frag} {M : Hp} {ι : List Addr} {s : Sto} {H : Hp} (C : Conc K M ι s H) {p : Addr} {xs : List D} {us : List V} (hp : H p = none) (r : Reps K M ι xs us) : Conc K M (ι ++ [p]) (s ++ [.lst xs]) (upd H p (.lst us)) ∧ Step M ι H M (ι ++ [p]) (upd H p (.lst us)) := by
  obtain ⟨hM, hι⟩ := C.fresh hp
  obtain ⟨C1, t1⟩ := C.over (o := .lst us) hp
  refine ⟨C1.join hι ⟨hM, us, upd_same, r.mono (Ex.refl M) ii_app⟩, Ex.refl M, ii_app, t1.fr, fun a h => ?_, fun a e => .inl e⟩
  rcases List.mem_append.mp h with h | h
  · exact .inl h
  · obtain rfl : a = p := by simpa using h
    exact .inr hp
theorem Post.laidO {K : PySem.W.Frag} {Wx : Nat → Hp → Prop} {M : Hp} {ι : List Addr} {H : Hp} {s : Sto} {xs : List D} {us : List V} {Q : VK} (P : Post K (Rep K) Wx M ι H (.val (.ob s.length) (s ++ [.lst xs])) Q) (C : Conc K M ι s H) (r : Reps K M ι xs us) {p : Addr} (hp : H p = none) : Q (.ref p) (upd H p (.lst us)) := by
  obtain ⟨C1, t1⟩ := C.owned hp r
  exact P _ _ _ _ t1 C1 ⟨p, rfl, by rw [← C.len]; simp⟩
theorem je_tup {k : Nat} (h : JA X cl W es fr) : JE X cl W (.Tuple es k pos) (tupE fr) := (pe_tup h).imp fun σ H Q h => by
  obtain ⟨M, ι, δ, s, C, S, P⟩ := h
  refine ⟨M, ι, δ, s, C, S, Post.mono (Post.bind (Reps X.K) P) fun us H1 m => ?_⟩
  obtain ⟨M1, ι1, xs, s1, t1, C1, r1, P1⟩ := m.ex
  by_cases hc : flats xs = true ∧ xs.length ≤ 16000000
  · rw [if_pos hc] at P1
    exact ⟨by rw [r1.length]; exact lim_le hc.2, fun p hp => Post.laidT P1 C1 (r1.flat hc.1) hp⟩
  · rw [if_neg hc] at P1; exact P1.elim
theorem je_lst (h : JA X cl W es fr) : JE X cl W (.List es pos) (lstE fr) := (pe_lst h).imp fun σ H Q h => by
  obtain ⟨M, ι, δ, s, C, S, P⟩ := h
  refine ⟨M, ι, δ, s, C, S, Post.mono (Post.bind (Reps X.K) P) fun us H1 m => ?_⟩
  obtain ⟨M1, ι1, xs, s1, t1, C1, r1, P1⟩ := m.ex
  by_cases hc : flats xs = true ∧ xs.length ≤ 16000000
  · rw [if_pos hc] at P1
    exact ⟨by rw [r1.length]; exact lim_le hc.2, fun p hp => Post.laidL P1 C1 (r1.flat hc.1) hp⟩
  · rw [if_neg hc] at P1; exact P1.elim
theorem je_own (h : JA X cl W es fr) : JE X cl W (.List es pos) (ownE fr) := (pe_lst h).imp fun σ H Q h => by
  obtain ⟨M, ι, δ, s, C, S, P⟩ := h
  refine ⟨M, ι, δ, s, C, S, Post.mono (Post.bind (Reps X.K) P) fun us H1 m => ?_⟩
  obtain ⟨M1, ι1, xs, s1, t1, C1, r1, P1⟩ := m.ex
  by_cases hc : xs.length ≤ 16000000
  · rw [if_pos hc] at P1
    exact ⟨by rw [r1.length]; exact lim_le hc, fun p hp => Post.laidO P1 C1 r1 hp⟩
  · rw [if_neg hc] at P1; exact P1.elim
end
end Fl
set_option Elab.async false
set_option linter.all false
set_option maxRecDepth 100000
namespace Fl
open PySem PySem.Spec PyProof.Rows L2
/-! ### data, looked at -/
def view (s : Sto) : D → D
  | .ob k => match s[k]? with
    | some (.lst ds) => if flats ds = true then .lst ds else .ob k
    | _ => .ob k
  | d => d
/-- .. of lists of one's own that hold others, too -/
def look (s : Sto) : D → D
  | .ob k => match s[k]? with
    | some (.lst ds) => .lst ds
    | _ => .ob k
  | d => d
@[simp] theorem view_non {s : Sto} : view s .non = .non := rfl
@[simp] theorem view_bl {s : Sto} {b : Bool} : view s (.bl b) = .bl b := rfl
@[simp] theorem view_int {s : Sto} {b : Int} : view s (.int b) = .int b := rfl
@[simp] theorem view_str {s : Sto} {b : List Nat} : view s (.str b) = .str b := rfl
@[simp] theorem view_tup {s : Sto} {b : List D} : view s (.tup b) = .tup b := rfl
@[simp] theorem view_lst {s : Sto} {b : List D} : view s (.lst b) = .lst b := rfl
@[simp] theorem view_ty {s : Sto} {b : String} : view s (.ty b) = .ty b := rfl
@[simp] theorem view_scr {s : Sto} {b : List Int} : view s (.scr b) = .scr b := rfl
theorem view_ob {s : Sto} {k : Nat} {ds : List D} (h : s[k]? = some (.lst ds)) (f : flats ds = true) : view s (.ob k) = .lst ds := by simp only [view, h, f]; rfl
@[simp] theorem look_str {s : Sto} {b : List Nat} : look s (.str b) = .str b := rfl
@[simp] theorem look_tup {s : Sto} {b : List D} : look s (.tup b) = .tup b := rfl
@[simp] theorem look_lst {s : Sto} {b : List D} : look s (.lst b) = .lst b := rfl
@[simp] theorem look_scr {s : Sto} {b : List Int} : look s (.scr b) = .scr b := rfl
theorem look_ob {s : Sto} {k : Nat} {ds : List D} (h : s[k]? = some (.lst ds)) : look s (.ob k) = .lst ds := by simp only [look, h]
/-- a looked-at value where it stands -/
def Sees (K : PySem.W.Frag) (M H : Hp) : D → V → Prop
  | .lst ds, v => ∃ a vs, v = .ref a ∧ H a = some (.lst vs) ∧ RepL K M ds vs
  | .ob _, _ => True
  | d, v => RepF K M d v
section
variable {K : PySem.W.Frag} {M : Hp} {ι : List Addr} {s : Sto} {H : Hp}
theorem Conc.sees (C : Conc K M ι s H) {x : D} {v : V} (r : Rep K M ι x v) : Sees K M H (view s x) v := by
  cases x with
  | ob k =>
    obtain ⟨a, rfl, h⟩ := r
    cases e : s[k]? with
    | none =>
      have q : view s (.ob k) = .ob k := by simp only [view, e]
      rw [q]; exact True.intro
    | some o =>
      cases o with
      | dead =>
        have q : view s (.ob k) = .ob k := by simp only [view, e]
        rw [q]; exact True.intro
      | ins _ _ =>
        have q : view s (.ob k) = .ob k := by simp only [view, e]
        rw [q]; exact True.intro
      | dic _ =>
        have q : view s (.ob k) = .ob k := by simp only [view, e]
        rw [q]; exact True.intro
      | lst ds =>
        by_cases f : flats ds = true
        · rw [view_ob e f]
          obtain ⟨hM, vs, h1, h2⟩ := C.obs k a _ h e
          exact ⟨a, vs, rfl, h1, h2.flat f⟩
        · have q : view s (.ob k) = .ob k := by simp only [view, e]; exact if_neg f
          rw [q]; exact True.intro
  | lst ds =>
    have r' : RepF K M (.lst ds) v := r
    unfold RepF at r'
    obtain ⟨a, vs, e, h1, h2⟩ := r'
    exact ⟨a, vs, e, C.sub a _ h1, h2⟩
  | _ => exact r
/-- .. with the things of the store -/
def Looks (K : PySem.W.Frag) (M : Hp) (ι : List Addr) (H : Hp) : D → V → Prop
  | .lst ds, v => ∃ a vs, v = .ref a ∧ H a = some (.lst vs) ∧ Reps K M ι ds vs
  | .ob _, _ => True
  | d, v => RepF K M d v
theorem Conc.looks (C : Conc K M ι s H) {x : D} {v : V} (r : Rep K M ι x v) : Looks K M ι H (look s x) v := by
  cases x with
  | ob k =>
    obtain ⟨a, rfl, h⟩ := r
    cases e : s[k]? with
    | none =>
      have q : look s (.ob k) = .ob k := by simp only [look, e]
      rw [q]; exact True.intro
    | some o =>
      cases o with
      | dead =>
        have q : look s (.ob k) = .ob k := by simp only [look, e]
        rw [q]; exact True.intro
      | ins _ _ =>
        have q : look s (.ob k) = .ob k := by simp only [look, e]
        rw [q]; exact True.intro
      | dic _ =>
        have q : look s (.ob k) = .ob k := by simp only [look, e]
        rw [q]; exact True.intro
      | lst ds =>
        rw [look_ob e]
        obtain ⟨hM, vs, h1, h2⟩ := C.obs k a _ h e
        exact ⟨a, vs, rfl, h1, h2⟩
  | lst ds =>
    have r' : RepF K M (.lst ds) v := r
    unfold RepF at r'
    obtain ⟨a, vs, e, h1, h2⟩ := r'
    exact ⟨a, vs, e, C.sub a _ h1, Reps.of h2⟩
  | _ => exact r
/-! ### == -/
mutual
def toPy : D → PyData
  | .non => .none
  | .bl b => .bool b
  | .int i => .int i
  | .str x => .str ⟨x.toArray⟩
  | .tup ds => .tuple (toPys ds)
  | .lst ds => .list (toPys ds)
  | .scr ns => .list (ns.map PyData.int)
  | .ty _ => .none
  | .ob _ => .none
def toPys : List D → List PyData
  | [] => []
  | d :: ds => toPy d :: toPys ds
end
mutual
/-- how deep; 100 for what == is not asked of -/
def dep : D → Nat
  | .tup ds => deps ds + 1
  | .lst ds => deps ds + 1
  | .scr _ => 1
  | .ty _ => 100
  | .ob _ => 100
  | _ => 0
def deps : List D → Nat
  | [] => 0
  | d :: ds => max (dep d) (deps ds)
end
theorem dpAll_ints : ∀ ns : List Int, DpAll K H (ns.map V.int) (ns.map PyData.int)
  | [] => .nil
  | n :: ns => .cons (.int n) (dpAll_ints ns)
mutual
theorem RepF.dp (m : Ex M H) : ∀ {d : D} {v : V}, RepF K M d v → dep d < 100 → Dp K H v (toPy d)
  | .non, v, h, _ => by unfold RepF at h; subst h; unfold toPy; exact .non
  | .bl b, v, h, _ => by unfold RepF at h; subst h; unfold toPy; exact .bl b
  | .int i, v, h, _ => by unfold RepF at h; subst h; unfold toPy; exact .int i
  | .str x, v, h, _ => by unfold RepF at h; obtain ⟨rfl, _⟩ := h; unfold toPy; exact .str _
  | .tup ds, v, h, e => by
    unfold RepF at h
    obtain ⟨a, vs, rfl, h1, h2⟩ := h
    unfold toPy
    unfold dep at e
    exact .tup (Ex.t m h1.sq) (RepL.dp m h2 (by omega))
  | .lst ds, v, h, e => by
    unfold RepF at h
    obtain ⟨a, vs, rfl, h1, h2⟩ := h
    unfold toPy
    unfold dep at e
    exact .lst (SqL.of (m _ _ h1)) (RepL.dp m h2 (by omega))
  | .scr ns, v, h, _ => by
    unfold RepF at h
    obtain ⟨a, rfl, h1⟩ := h
    unfold toPy
    exact .lst (Ex.l m h1) (dpAll_ints ns)
  | .ty _, _, _, e => by unfold dep at e; omega
  | .ob _, _, _, e => by unfold dep at e; omega
theorem RepL.dp (m : Ex M H) : ∀ {ds : List D} {vs : List V}, RepL K M ds vs → deps ds < 100 → DpAll K H vs (toPys ds)
  | [], _, h, _ => by rw [h.unnil]; unfold toPys; exact .nil
  | d :: ds, _, h, e => by
    obtain ⟨v, r, rfl, h1, h2⟩ := h.uncons
    unfold deps at e
    unfold toPys
    exact .cons (RepF.dp m h1 (by omega)) (RepL.dp m h2 (by omega))
end
theorem Sees.dp (m : Ex M H) {d : D} {v : V} (h : Sees K M H d v) (e : dep d < 100) : Dp K H v (toPy d) := by
  cases d with
  | lst ds =>
    obtain ⟨a, vs, rfl, h1, h2⟩ := h
    unfold toPy
    unfold dep at e
    exact .lst (SqL.of h1) (RepL.dp m h2 (by omega))
  | ob k => unfold dep at e; omega
  | _ => exact RepF.dp m h e
theorem lay_ints : ∀ ns : List Int, PyData.canLayAll0 (ns.map PyData.int) = true
  | [] => by simp [PyData.canLayAll0]
  | n :: ns => by simp [PyData.canLayAll0, PyData.canLay0, lay_ints ns]
mutual
theorem RepF.lay : ∀ {d : D} {v : V}, RepF K M d v → PyData.canLay0 (toPy d) = true
  | .non, _, _ => by simp [toPy, PyData.canLay0]
  | .bl _, _, _ => by simp [toPy, PyData.canLay0]
  | .int _, _, _ => by simp [toPy, PyData.canLay0]
  | .str x, _, h => by
    unfold RepF at h
    have h2 := h.2
    simp only [toPy, PyData.canLay0, PyData.strOk]
    rw [← Array.all_toList]
    exact h2
  | .tup ds, _, h => by
    unfold RepF at h
    obtain ⟨a, vs, _, _, h2⟩ := h
    simp only [toPy, PyData.canLay0]
    exact RepL.lay h2
  | .lst ds, _, h => by
    unfold RepF at h
    obtain ⟨a, vs, _, _, h2⟩ := h
    simp only [toPy, PyData.canLay0]
    exact RepL.lay h2
  | .scr ns, _, _ => by simp only [toPy, PyData.canLay0]; exact lay_ints ns
  | .ty _, _, _ => by simp [toPy, PyData.canLay0]
  | .ob _, _, _ => by simp [toPy, PyData.canLay0]
theorem RepL.lay : ∀ {ds : List D} {vs : List V}, RepL K M ds vs → PyData.canLayAll0 (toPys ds) = true
  | [], _, _ => by simp [toPys, PyData.canLayAll0]
  | d :: ds, _, h => by
    obtain ⟨v, r, rfl, h1, h2⟩ := h.uncons
    simp only [toPys, PyData.canLayAll0, Bool.and_eq_true]
    exact ⟨RepF.lay h1, RepL.lay h2⟩
end
theorem Sees.lay {d : D} {v : V} (h : Sees K M H d v) : PyData.canLay0 (toPy d) = true := by
  cases d with
  | lst ds =>
    obtain ⟨a, vs, _, _, h2⟩ := h
    simp only [toPy, PyData.canLay0]
    exact RepL.lay h2
  | ob k => simp [toPy, PyData.canLay0]
  | _ => exact RepF.lay (K := K) (M := M) h
theorem depth_ints : ∀ ns : List Int, PyData.depthAll (ns.map PyData.int) = 0
  | [] => by simp [PyData.depthAll]
  | n :: ns => by simp [PyData.depthAll, PyData.depth, depth_ints ns]
mutual
theorem depth_py : ∀ d : D, PyData.depth (toPy d) ≤ dep d
  | .non => by simp [toPy, PyData.depth]
  | .bl _ => by simp [toPy, PyData.depth]
  | .int _ => by simp [toPy, PyData.depth]
  | .str _ => by simp [toPy, PyData.depth]
  | .tup ds => by have := depths_py ds; simp only [toPy, PyData.depth, dep]; omega
  | .lst ds => by have := depths_py ds; simp only [toPy, PyData.depth, dep]; omega
  | .scr ns => by simp [toPy, PyData.depth, dep, depth_ints]
  | .ty _ => by simp [toPy, PyData.depth]
  | .ob _ => by simp [toPy, PyData.depth]
theorem depths_py : ∀ ds : List D, PyData.depthAll (toPys ds) ≤ deps ds
  | [] => by simp [toPys, PyData.depthAll]
  | d :: ds => by
    have h1 := depth_py d
    have h2 := depths_py ds
    simp only [toPys, PyData.depthAll, deps]
    omega
end
theorem Sees.shaped {d : D} {v : V} (h : Sees K M H d v) (e : dep d ≤ 60) : SeqAt.shaped (toPy d) = true := by
  unfold SeqAt.shaped
  rw [h.lay, Bool.true_and]
  exact decide_eq_true (Nat.le_trans (depth_py d) (by omega))
def deq (x y : D) : Bool := PyData.eqv (toPy x) (toPy y)
def deqs (xs ys : List D) : Bool := PyData.eqvAll (toPys xs) (toPys ys)
end
def eqG : Op2 := fun s x y => if dep (view s x) ≤ 60 ∧ dep (view s y) ≤ 60 then .val (.bl (deq (view s x) (view s y))) s else .stuck
def neG : Op2 := fun s x y => if dep (view s x) ≤ 60 ∧ dep (view s y) ≤ 60 then .val (.bl (!deq (view s x) (view s y))) s else .stuck
theorem rf_bl {K : PySem.W.Frag} {M : Hp} {ι : List Addr} {b : Bool} : Rep K M ι (.bl b) (.bl b) := Rep.of (by unfold RepF; rfl)
theorem rf_int {K : PySem.W.Frag} {M : Hp} {ι : List Addr} {b : Int} : Rep K M ι (.int b) (.int b) := Rep.of (by unfold RepF; rfl)
theorem rf_non {K : PySem.W.Frag} {M : Hp} {ι : List Addr} : Rep K M ι .non .non := Rep.of (by unfold RepF; rfl)
theorem rf_str {K : PySem.W.Frag} {M : Hp} {ι : List Addr} {cs : List Nat} (h : okS cs = true) : Rep K M ι (.str cs) (.str ⟨cs.toArray⟩) := Rep.of (by unfold RepF; exact ⟨rfl, h⟩)
theorem rf_str' {K : PySem.W.Frag} {M : Hp} {ι : List Addr} {cs : List Nat} {x : Str} (e : x = ⟨cs.toArray⟩) (h : okS cs = true) : Rep K M ι (.str cs) (.str x) := by rw [e]; exact rf_str h
theorem ok_eq {K : PySem.W.Frag} : Ok2 K (rEqD K) eqG := fun Wx M ι s H x y u v Q C rx ry P => by
  unfold eqG at P
  split at P
  · rename_i h
    have s1 := C.sees rx
    have s2 := C.sees ry
    exact ⟨_, _, s1.dp C.sub (by omega), s2.dp C.sub (by omega), s1.shaped h.1, s2.shaped h.2, Post.now (C := Rep K) P C rf_bl⟩
  · exact P.elim
theorem ok_ne {K : PySem.W.Frag} : Ok2 K (rNeD K) neG := fun Wx M ι s H x y u v Q C rx ry P => by
  unfold neG at P
  split at P
  · rename_i h
    have s1 := C.sees rx
    have s2 := C.sees ry
    exact ⟨_, _, s1.dp C.sub (by omega), s2.dp C.sub (by omega), s1.shaped h.1, s2.shaped h.2, Post.now (C := Rep K) P C rf_bl⟩
  · exact P.elim
/-! ### arithmetic -/
def intG (f : Int → Int → D) : Op2 := fun s x y => match x, y with
  | .int i, .int j => .val (f i j) s
  | _, _ => .stuck
def intCG (c : Int → Int → Bool) (f : Int → Int → D) : Op2 := fun s x y => match x, y with
  | .int i, .int j => if c i j = true then .val (f i j) s else .stuck
  | _, _ => .stuck
theorem Rep.int {K : PySem.W.Frag} {M : Hp} {ι : List Addr} {i : Int} {v : V} (h : Rep K M ι (.int i) v) : v = .int i := by
  have h' : RepF K M (.int i) v := h
  unfold RepF at h'; exact h'
theorem Rep.bl {K : PySem.W.Frag} {M : Hp} {ι : List Addr} {i : Bool} {v : V} (h : Rep K M ι (.bl i) v) : v = .bl i := by
  have h' : RepF K M (.bl i) v := h
  unfold RepF at h'; exact h'
theorem Rep.str {K : PySem.W.Frag} {M : Hp} {ι : List Addr} {i : List Nat} {v : V} (h : Rep K M ι (.str i) v) : v = .str ⟨i.toArray⟩ ∧ okS i = true := by
  have h' : RepF K M (.str i) v := h
  unfold RepF at h'; exact h'
theorem Rep.non {K : PySem.W.Frag} {M : Hp} {ι : List Addr} {v : V} (h : Rep K M ι .non v) : v = .non := by
  have h' : RepF K M .non v := h
  unfold RepF at h'; exact h'
theorem Rep.tup {K : PySem.W.Frag} {M : Hp} {ι : List Addr} {ds : List D} {v : V} (h : Rep K M ι (.tup ds) v) : ∃ a vs, v = .ref a ∧ TupAt K M a vs ∧ RepL K M ds vs := by
  have h' : RepF K M (.tup ds) v := h
  unfold RepF at h'; exact h'
theorem Rep.lst {K : PySem.W.Frag} {M : Hp} {ι : List Addr} {ds : List D} {v : V} (h : Rep K M ι (.lst ds) v) : ∃ a vs, v = .ref a ∧ M a = some (.lst vs) ∧ RepL K M ds vs := by
  have h' : RepF K M (.lst ds) v := h
  unfold RepF at h'; exact h'
theorem ok_int {K : PySem.W.Frag} {f : Int → Int → D} {g : Int → Int → V} (h : ∀ i j M ι, Rep K M ι (f i j) (g i j)) : Ok2 K (rI0 g) (intG f) := fun Wx M ι s H x y u v Q C rx ry P => by
  unfold intG at P
  split at P
  · exact ⟨_, _, rx.int, ry.int, Post.now (C := Rep K) P C (h _ _ _ _)⟩
  · exact P.elim
theorem ok_intC {K : PySem.W.Frag} {c : Int → Int → Bool} {p : Int → Int → Prop} {f : Int → Int → D} {g : Int → Int → V} (hc : ∀ i j, c i j = true → p i j) (h : ∀ i j M ι, Rep K M ι (f i j) (g i j)) : Ok2 K (rI p g) (intCG c f) := fun Wx M ι s H x y u v Q C rx ry P => by
  unfold intCG at P
  split at P
  · split at P
    · rename_i e
      exact ⟨_, _, rx.int, ry.int, hc _ _ e, Post.now (C := Rep K) P C (h _ _ _ _)⟩
    · exact P.elim
  · exact P.elim
def subG : Op2 := intG fun i j => .int (i - j)
def ltG : Op2 := intG fun i j => .bl (decide (i < j))
def leG : Op2 := intG fun i j => .bl (decide (i ≤ j))
def gtG : Op2 := intG fun i j => .bl (decide (j < i))
def geG : Op2 := intG fun i j => .bl (decide (j ≤ i))
def modG : Op2 := intCG (fun _ j => decide (0 < j)) fun i j => .int (i % j)
def divG : Op2 := intCG (fun _ j => decide (0 < j) && decide (j < 2 ^ 64)) fun i j => .int (i / j)
def powG : Op2 := intCG (fun i j => decide (0 ≤ j) && decide (j ≤ 1000) && decide (-1000 < i) && decide (i < 1000)) fun i j => .int (i ^ j.toNat)
def big (i : Int) : Bool := decide (-(2 ^ 64) < i) && decide (i < 2 ^ 64)
theorem ok_sub {K : PySem.W.Frag} : Ok2 K (rI0 fun i j => .int (i - j)) subG := ok_int fun _ _ _ _ => rf_int
theorem ok_lt {K : PySem.W.Frag} : Ok2 K (rI0 fun i j => .bl (decide (i < j))) ltG := ok_int fun _ _ _ _ => rf_bl
theorem ok_le {K : PySem.W.Frag} : Ok2 K (rI0 fun i j => .bl (decide (i ≤ j))) leG := ok_int fun _ _ _ _ => rf_bl
theorem ok_gt {K : PySem.W.Frag} : Ok2 K (rI0 fun i j => .bl (decide (j < i))) gtG := ok_int fun _ _ _ _ => rf_bl
theorem ok_ge {K : PySem.W.Frag} : Ok2 K (rI0 fun i j => .bl (decide (j ≤ i))) geG := ok_int fun _ _ _ _ => rf_bl
theorem ok_mod {K : PySem.W.Frag} : Ok2 K (rI (fun _ j => 0 < j) fun i j => .int (i % j)) modG := ok_intC (fun _ _ h => of_decide_eq_true h) fun _ _ _ _ => rf_int
theorem ok_div {K : PySem.W.Frag} : Ok2 K (rI CDivW fun i j => .int (i / j)) divG := ok_intC (fun i j h => by
  simp only [Bool.and_eq_true, decide_eq_true_eq] at h
  exact wide_div (b := 64) h.1 (by omega) (by omega) (by omega)) fun _ _ _ _ => rf_int
theorem ok_pow {K : PySem.W.Frag} : Ok2 K (rI CPow fun i j => .int (i ^ j.toNat)) powG := ok_intC (fun i j h => by
  simp only [Bool.and_eq_true, decide_eq_true_eq] at h
  exact ⟨h.1.1.1, by omega, by omega⟩) fun _ _ _ _ => rf_int
def negG : Op1 := fun s x => match x with
  | .int i => .val (.int (-i)) s
  | _ => .stuck
theorem ok_neg {K : PySem.W.Frag} : Ok1 K (rU fun i => .int (-i)) negG := fun Wx M ι s H x u Q C rx P => by
  unfold negG at P
  split at P
  · exact ⟨_, rx.int, Post.now (C := Rep K) P C rf_int⟩
  · exact P.elim
/-! ### + -/
def addG : Op2 := fun s x y => match view s x, view s y with
  | .int i, .int j => .val (.int (i + j)) s
  | .str a, .str b => if a.length + b.length ≤ 16000000 then .val (.str (a ++ b)) s else .stuck
  | .lst a, .lst b => if a.length + b.length ≤ 16000000 then .val (.lst (a ++ b)) s else .stuck
  | .tup a, .tup b => if a.length + b.length ≤ 16000000 then .val (.tup (a ++ b)) s else .stuck
  | _, _ => .stuck
def rAddU (K : PySem.W.Frag) : R2 := fun x y H Q => ((rI0 fun i j => .int (i + j)) x y H Q ∨ (∃ i j, x = .str i ∧ y = .str j ∧ i.length + j.length ≤ sizeLine ∧ Q (.str (i ++ j)) H)) ∨ (rCat x y H Q ∨ rCatA K x y H Q)
theorem op_addU {X : Cx} : OpR X (binaryOp .Add) (rAddU X.K) := (op_add.or op_add_str).or (op_cat.or op_catA)
theorem okS_app {a b : List Nat} (ha : okS a = true) (hb : okS b = true) : okS (a ++ b) = true := by
  unfold okS at *
  rw [List.all_append, ha, hb]; rfl
theorem Sees.int {K : PySem.W.Frag} {M H : Hp} {i : Int} {v : V} (h : Sees K M H (.int i) v) : v = .int i := by
  have h' : RepF K M (.int i) v := h
  unfold RepF at h'; exact h'
theorem Sees.str {K : PySem.W.Frag} {M H : Hp} {i : List Nat} {v : V} (h : Sees K M H (.str i) v) : v = .str ⟨i.toArray⟩ ∧ okS i = true := by
  have h' : RepF K M (.str i) v := h
  unfold RepF at h'; exact h'
theorem Sees.tup {K : PySem.W.Frag} {M H : Hp} {ds : List D} {v : V} (h : Sees K M H (.tup ds) v) : ∃ a vs, v = .ref a ∧ TupAt K M a vs ∧ RepL K M ds vs := by
  have h' : RepF K M (.tup ds) v := h
  unfold RepF at h'; exact h'
theorem ok_add {K : PySem.W.Frag} : Ok2 K (rAddU K) addG := fun Wx M ι s H x y u v Q C rx ry P => by
  have s1 := C.sees rx
  have s2 := C.sees ry
  unfold addG at P
  split at P
  · rename_i e1 e2
    rw [e1] at s1; rw [e2] at s2
    exact .inl (.inl ⟨_, _, s1.int, s2.int, Post.now (C := Rep K) P C rf_int⟩)
  · rename_i a b e1 e2
    rw [e1] at s1; rw [e2] at s2
    split at P
    · rename_i hl
      obtain ⟨rfl, o1⟩ := s1.str
      obtain ⟨rfl, o2⟩ := s2.str
      refine .inl (.inr ⟨_, _, rfl, rfl, ?_, Post.now (C := Rep K) P C (rf_str' (SX.S_cat a b) (okS_app o1 o2))⟩)
      show (SX.S a).length + (SX.S b).length ≤ sizeLine
      rw [SX.S_len, SX.S_len]; exact lim_le hl
    · exact P.elim
  · rename_i a b e1 e2
    rw [e1] at s1; rw [e2] at s2
    split at P
    · rename_i hl
      obtain ⟨p, vs, rfl, h1, r1⟩ := s1
      obtain ⟨q, us, rfl, h2, r2⟩ := s2
      exact .inr (.inl ⟨p, q, vs, us, rfl, rfl, h1, h2, by rw [r1.length, r2.length]; exact lim_le hl, fun l hl => Post.laidL P C (r1.append r2) hl⟩)
    · exact P.elim
  · rename_i a b e1 e2
    rw [e1] at s1; rw [e2] at s2
    split at P
    · rename_i hl
      obtain ⟨p, vs, rfl, h1, r1⟩ := s1.tup
      obtain ⟨q, us, rfl, h2, r2⟩ := s2.tup
      refine .inr (.inr ⟨p, q, vs, us, rfl, rfl, Ex.t C.sub h1.sq, Ex.t C.sub h2.sq, by rw [r1.length, r2.length]; exact lim_le hl, fun e => ?_, fun _ e => ?_, fun _ _ l hl => Post.laidT P C (r1.append r2) hl⟩)
      · have ea : a = [] := by
          have := r1.length
          rw [e] at this
          exact List.eq_nil_of_length_eq_zero this.symm
        subst ea
        exact Post.now (C := Rep K) P C (Rep.of (by unfold RepF; exact ⟨q, us, rfl, h2, r2⟩))
      · have eb : b = [] := by
          have := r2.length
          rw [e] at this
          exact List.eq_nil_of_length_eq_zero this.symm
        subst eb
        rw [List.append_nil] at P
        exact Post.now (C := Rep K) P C (Rep.of (by unfold RepF; exact ⟨p, vs, rfl, h1, r1⟩))
    · exact P.elim
  · exact P.elim
/-! ### is -/
def isNG : Op2 := fun s x y => match y with
  | .non => match x with
    | .non => .val (.bl true) s
    | _ => .val (.bl false) s
  | .bl b => match x with
    | .bl a => .val (.bl (a == b)) s
    | _ => .stuck
  | _ => .stuck
def isntG : Op2 := fun s x y => match y with
  | .non => match x with
    | .non => .val (.bl false) s
    | _ => .val (.bl true) s
  | .bl b => match x with
    | .bl a => .val (.bl (!(a == b))) s
    | _ => .stuck
  | _ => .stuck
def rIsU : R2 := fun x y H Q => (y = .non ∧ Q (.bl (decide (x = .non))) H) ∨ rIsB x y H Q
def rIsntU : R2 := fun x y H Q => (y = .non ∧ Q (.bl (!decide (x = .non))) H) ∨ rNotB x y H Q
theorem op_isU {X : Cx} : OpR X (compareOp .Is) rIsU := op_isN.or op_isBl
theorem op_isntU {X : Cx} : OpR X (compareOp .IsNot) rIsntU := op_notN.or op_notBl
theorem Rep.notNon {K : PySem.W.Frag} {M : Hp} {ι : List Addr} {x : D} {v : V} (h : Rep K M ι x v) (hx : x ≠ .non) : v ≠ .non := by
  cases x with
  | non => exact absurd rfl hx
  | ob k => obtain ⟨_, rfl, _⟩ := h; exact fun z => nomatch z
  | _ =>
    have h' := h.f rfl
    unfold RepF at h'
    first
      | (subst h'; exact fun z => nomatch z)
      | (obtain ⟨rfl, _⟩ := h'; exact fun z => nomatch z)
      | (obtain ⟨_, _, rfl, _⟩ := h'; exact fun z => nomatch z)
      | (obtain ⟨_, rfl, _⟩ := h'; exact fun z => nomatch z)
theorem ok_is {K : PySem.W.Frag} : Ok2 K rIsU isNG := fun Wx M ι s H x y u v Q C rx ry P => by
  unfold isNG at P
  split at P
  · split at P
    · cases rx.non
      exact .inl ⟨ry.non, Post.now (C := Rep K) P C rf_bl⟩
    · rename_i h1
      refine .inl ⟨ry.non, ?_⟩
      rw [decide_eq_false (rx.notNon h1)]
      exact Post.now (C := Rep K) P C rf_bl
  · split at P
    · refine .inr ⟨_, _, rx.bl, ry.bl, Post.now (C := Rep K) P C ?_⟩
      rename_i b _ a
      rw [show decide (a = b) = (a == b) by cases a <;> cases b <;> rfl]
      exact rf_bl
    · exact P.elim
  · exact P.elim
theorem ok_isnt {K : PySem.W.Frag} : Ok2 K rIsntU isntG := fun Wx M ι s H x y u v Q C rx ry P => by
  unfold isntG at P
  split at P
  · split at P
    · cases rx.non
      exact .inl ⟨ry.non, Post.now (C := Rep K) P C rf_bl⟩
    · rename_i h1
      refine .inl ⟨ry.non, ?_⟩
      rw [decide_eq_false (rx.notNon h1)]
      exact Post.now (C := Rep K) P C rf_bl
  · split at P
    · refine .inr ⟨_, _, rx.bl, ry.bl, Post.now (C := Rep K) P C ?_⟩
      rename_i b _ a
      rw [show decide (a = b) = (a == b) by cases a <;> cases b <;> rfl]
      exact rf_bl
    · exact P.elim
  · exact P.elim
/-! ### items -/
theorem Reps.atI {K : PySem.W.Frag} {M : Hp} {ι : List Addr} {ds : List D} {vs : List V} (r : Reps K M ι ds vs) {i : Int} {d : D} (h : L2.atI ds i = some d) : ∃ v, L2.atI vs i = some v ∧ Rep K M ι d v := by
  unfold L2.atI at h ⊢
  rw [r.length]
  cases e : ixN ds.length i with
  | none => rw [e] at h; cases h
  | some j =>
    rw [e] at h
    exact r.get h
theorem Looks.str {K : PySem.W.Frag} {M : Hp} {ι : List Addr} {H : Hp} {i : List Nat} {v : V} (h : Looks K M ι H (.str i) v) : v = .str ⟨i.toArray⟩ ∧ okS i = true := by
  have h' : RepF K M (.str i) v := h
  unfold RepF at h'; exact h'
theorem Looks.tup {K : PySem.W.Frag} {M : Hp} {ι : List Addr} {H : Hp} {ds : List D} {v : V} (h : Looks K M ι H (.tup ds) v) : ∃ a vs, v = .ref a ∧ TupAt K M a vs ∧ RepL K M ds vs := by
  have h' : RepF K M (.tup ds) v := h
  unfold RepF at h'; exact h'
theorem RepL.atI {K : PySem.W.Frag} {M : Hp} {ds : List D} {vs : List V} (r : RepL K M ds vs) {i : Int} {d : D} (h : L2.atI ds i = some d) : ∃ v, L2.atI vs i = some v ∧ RepF K M d v := by
  unfold L2.atI at h ⊢
  rw [r.length]
  cases e : ixN ds.length i with
  | none => rw [e] at h; cases h
  | some j =>
    rw [e] at h
    exact r.get h
def ixG : Op2 := fun s x y => match look s x, y with
  | .lst ds, .int i => match atI ds i with
    | some d => .val d s
    | none => .stuck
  | .tup ds, .int i => match atI ds i with
    | some d => .val d s
    | none => .stuck
  | .str cs, .int i => if cs.length ≤ 16000000 then match atI cs i with
      | some c => .val (.str [c]) s
      | none => .stuck
    else .stuck
  | _, _ => .stuck
def rIxU (K : PySem.W.Frag) : R2 := fun x y H Q => (rIxL K x y H Q ∨ rIxT K x y H Q) ∨ rIxS x y H Q
theorem ix_U {X : Cx} : IxR X (rIxU X.K) := (ix_list.or ix_tup).or ix_str
theorem okS_mem {cs : List Nat} (h : okS cs = true) {c : Nat} (m : c ∈ cs) : okS [c] = true := by
  unfold okS at *
  simp only [List.all_eq_true, List.mem_singleton] at h ⊢
  rintro x rfl
  exact h _ m
theorem atI_mem {α : Type} {xs : List α} {i : Int} {v : α} (h : atI xs i = some v) : v ∈ xs := by
  obtain ⟨j, _, h2, _⟩ := atI_get h
  exact List.mem_of_getElem? h2
theorem ok_ix {K : PySem.W.Frag} : Ok2 K (rIxU K) ixG := fun Wx M ι s H x y u v Q C rx ry P => by
  have s1 := C.looks rx
  unfold ixG at P
  split at P
  · rename_i e
    rw [e] at s1
    split at P
    · rename_i d h
      obtain ⟨a, vs, rfl, h1, r1⟩ := s1
      obtain ⟨w, h2, h3⟩ := r1.atI h
      exact .inl (.inl ⟨a, vs, _, w, rfl, ry.int, SqL.of h1, h2, Post.now (C := Rep K) P C h3⟩)
    · exact P.elim
  · rename_i e
    rw [e] at s1
    split at P
    · rename_i d h
      obtain ⟨a, vs, rfl, h1, r1⟩ := s1.tup
      obtain ⟨w, h2, h3⟩ := r1.atI h
      exact .inl (.inr ⟨a, vs, _, w, rfl, ry.int, Ex.t C.sub h1.sq, h2, Post.now (C := Rep K) P C (Rep.of h3)⟩)
    · exact P.elim
  · rename_i cs i e
    rw [e] at s1
    split at P
    · rename_i hl
      split at P
      · rename_i c h
        obtain ⟨rfl, o⟩ := s1.str
        refine .inr ⟨_, _, c, rfl, ry.int, ?_, ?_, Post.now (C := Rep K) P C (rf_str (okS_mem o (atI_mem h)))⟩
        · show (SX.S cs).length ≤ sizeLine
          rw [SX.S_len]; exact lim_le hl
        · simpa using h
      · exact P.elim
    · exact P.elim
  · exact P.elim
/-- o[i] = v -/
def setI (fo fi : EF) : GF := fun d δ s => (fo δ s).bind fun x s1 => (fi δ s1).bind fun y s2 => match x, y with
  | .ob k, .int i => match s2[k]? with
    | some (.lst ds) => match ixN ds.length i with
      | some j => .val δ (s2.set k (.lst (ds.set j d)))
      | none => .stuck
    | _ => .stuck
  | _, _ => .stuck
theorem Rep.ob {K : PySem.W.Frag} {M : Hp} {ι : List Addr} {k : Nat} {v : V} (h : Rep K M ι (.ob k) v) : ∃ a, v = .ref a ∧ ι[k]? = some a := h
theorem jg_set {X : Cx} {cl : Nat → Value} {o i : Expr} {pos : Pos} {fo fi : EF} (ho : JE X cl (fun _ _ _ _ => False) o fo) (hi : JE X cl (fun _ _ _ _ => False) i fi)
    (ha : ∀ v, assign (.Subscript o i pos) X.env v = (do
      let ov ← holding [v] (eval o X.env)
      let iv ← holding [v, ov] (eval i X.env)
      standAt pos
      holding [v, ov, iv] (setItem ov iv v)
      release [v, ov, iv] []) := by intro _; rfl) : JG X (.Subscript o i pos) (setI fo fi) := (pg_sub ho hi set_list ha).imp fun v σ H Q h => by
  obtain ⟨M, ι, δ, s, d, C, S, r, P⟩ := h
  refine ⟨M, ι, δ, s, C, S, Post.mono (Post.bind (Rep X.K) P) fun u H1 m => ?_⟩
  obtain ⟨M1, ι1, x, s1, t1, C1, r1, P1⟩ := m.ex
  refine ⟨M1, ι1, δ, s1, C1, S.step t1, Post.mono (Post.bind (Rep X.K) P1) fun w H2 m => ?_⟩
  obtain ⟨M2, ι2, y, s2, t2, C2, r2, P2⟩ := m.ex
  revert P2
  split
  · rename_i k i
    split
    · rename_i ds e
      split
      · rename_i j hj
        intro P2
        obtain ⟨a, rfl, hk⟩ := (r1.step t2).ob
        obtain ⟨hM, vs, h1, r3⟩ := C2.obs k a _ hk e
        refine ⟨a, vs, _, j, rfl, r2.int, h1, by rw [r3.length]; exact hj, ?_⟩
        have r4 : Rep X.K M2 ι2 d v := (r.step t1).step t2
        obtain ⟨C3, t3⟩ := C2.put (o := .lst (vs.set j v)) (u := .lst (ds.set j d)) hk hM ⟨hM, _, upd_same, r3.set r4 j⟩
        exact P2 M2 ι2 _ σ t3 C3 (((S.step t1).step t2).step t3)
      · exact fun P2 => P2.elim
    · exact fun P2 => P2.elim
  · exact fun P2 => P2.elim
/-! ### len, int, isinstance, list -/
def lenG (s : Sto) : List D → O D
  | [x] => match look s x with
    | .lst ds => .val (.int ds.length) s
    | .tup ds => .val (.int ds.length) s
    | .scr ds => .val (.int ds.length) s
    | .str cs => if cs.length ≤ 16000000 then .val (.int cs.length) s else .stuck
    | _ => .stuck
  | _ => .stuck
theorem Reps.one {K : PySem.W.Frag} {M : Hp} {ι : List Addr} {x : D} {us : List V} (h : Reps K M ι [x] us) : ∃ u, us = [u] ∧ Rep K M ι x u := by
  cases h with
  | cons a b => cases b; exact ⟨_, rfl, a⟩
theorem Reps.two {K : PySem.W.Frag} {M : Hp} {ι : List Addr} {x y : D} {us : List V} (h : Reps K M ι [x, y] us) : ∃ u w, us = [u, w] ∧ Rep K M ι x u ∧ Rep K M ι y w := by
  cases h with
  | cons a b => obtain ⟨w, rfl, c⟩ := b.one; exact ⟨_, w, rfl, a, c⟩
def rLenU (K : PySem.W.Frag) : List V → Hp → VK → Prop := fun xs H Q => ∃ x n, xs = [x] ∧ LenV K x H n ∧ Q (.int n) H
theorem ok_len {K : PySem.W.Frag} : OkN K (rLenU K) lenG := fun Wx M ι s H xs us Q C r P => by
  unfold lenG at P
  split at P
  · rename_i x
    obtain ⟨u, rfl, rx⟩ := r.one
    have s1 := C.looks rx
    split at P
    · rename_i ds e
      rw [e] at s1
      obtain ⟨a, vs, rfl, h1, r1⟩ := s1
      exact ⟨_, ds.length, rfl, .inl ⟨vs, SqL.of h1, r1.length.symm⟩, Post.now (C := Rep K) P C rf_int⟩
    · rename_i ds e
      rw [e] at s1
      obtain ⟨a, vs, rfl, h1, r1⟩ := s1.tup
      exact ⟨_, ds.length, rfl, .inr ⟨vs, Ex.t C.sub h1.sq, r1.length.symm⟩, Post.now (C := Rep K) P C rf_int⟩
    · rename_i ns e
      rw [e] at s1
      have s2 : RepF K M (.scr ns) u := s1
      unfold RepF at s2
      obtain ⟨a, rfl, h1⟩ := s2
      exact ⟨_, ns.length, rfl, .inl ⟨_, Ex.l C.sub h1, by simp⟩, Post.now (C := Rep K) P C rf_int⟩
    · rename_i cs e
      rw [e] at s1
      split at P
      · rename_i hl
        obtain ⟨rfl, o⟩ := s1.str
        refine ⟨_, cs.length, rfl, ?_, Post.now (C := Rep K) P C rf_int⟩
        exact ⟨by show (SX.S cs).length ≤ sizeLine; rw [SX.S_len]; exact lim_le hl, (SX.S_len cs).symm⟩
      · exact P.elim
    · exact P.elim
  · exact P.elim
def intOf (s : Sto) : List D → O D
  | [.bl b] => .val (.int (if b then 1 else 0)) s
  | [.int i] => .val (.int i) s
  | _ => .stuck
def rInt1 : List V → Hp → VK → Prop := fun xs H Q => (∃ i, xs = [.int i] ∧ Q (.int i) H) ∨ ∃ k, xs = [.bl k] ∧ Q (.int (if k then 1 else 0)) H
theorem ok_intOf {K : PySem.W.Frag} : OkN K rInt1 intOf := fun Wx M ι s H xs us Q C r P => by
  unfold intOf at P
  split at P
  · obtain ⟨u, rfl, rx⟩ := r.one
    exact .inr ⟨_, by rw [rx.bl], Post.now (C := Rep K) P C rf_int⟩
  · obtain ⟨u, rfl, rx⟩ := r.one
    exact .inl ⟨_, by rw [rx.int], Post.now (C := Rep K) P C rf_int⟩
  · exact P.elim
/-- the type of data, as told -/
def tyD : D → Option String
  | .non => some "NoneType"
  | .bl _ => some "bool"
  | .int _ => some "int"
  | .str _ => some "str"
  | .tup _ => some "tuple"
  | .lst _ => some "list"
  | .scr _ => some "list"
  | _ => none
def isT (d : D) (T : String) : Option Bool := match tyD d with
  | some t => kitB t T
  | none => none
theorem Sees.ty {K : PySem.W.Frag} {M H : Hp} (m : Ex M H) {d : D} {v : V} {t : String} (h : Sees K M H d v) (e : tyD d = some t) : TyX K H v (.type t) := by
  cases d with
  | non => cases e; have h' : RepF K M .non v := h; unfold RepF at h'; subst h'; exact .base .non
  | bl b => cases e; have h' : RepF K M (.bl b) v := h; unfold RepF at h'; subst h'; exact .base (.bl b)
  | int b => cases e; cases h.int; exact .base (.int b)
  | str b => cases e; obtain ⟨rfl, _⟩ := h.str; exact .base (.str _)
  | tup ds =>
    cases e
    obtain ⟨a, vs, rfl, h1, _⟩ := h.tup
    rcases h1 with h1 | ⟨o, its, n, h1, h2, _⟩
    · exact .base (.tup (m _ _ h1))
    · exact .kTuple h1 h2
  | lst ds => cases e; obtain ⟨a, vs, rfl, h1, _⟩ := h; exact .base (.lst h1)
  | scr ns =>
    cases e
    have h' : RepF K M (.scr ns) v := h
    unfold RepF at h'
    obtain ⟨a, rfl, h1⟩ := h'
    rcases h1 with (h1 | ⟨o, h1⟩) | ⟨o, its, n, h1, h2, _⟩
    · exact .base (.lst (m _ _ h1))
    · exact .base (.frz (m _ _ h1))
    · exact .kList h1 h2
  | ty _ => cases e
  | ob _ => cases e
def isiG (s : Sto) : List D → O D
  | [x, .ty T] => match isT (view s x) T with
    | some b => .val (.bl b) s
    | none => .stuck
  | [x, .tup [.ty T, .ty U]] => match isT (view s x) T with
    | some true => .val (.bl true) s
    | some false => match isT (view s x) U with
      | some b => .val (.bl b) s
      | none => .stuck
    | none => .stuck
  | _ => .stuck
def rIsiU (K : PySem.W.Frag) : List V → Hp → VK → Prop := fun xs H Q => rIsi K xs H Q ∨ rIsiT K xs H Q ∨ rIsiK K xs H Q
theorem CallR.or {X : Cx} {f : Value} {r r' : List V → Hp → VK → Prop} (h : CallR X f r) (h' : CallR X f r') : CallR X f (fun xs H Q => r xs H Q ∨ r' xs H Q) := by
  intro pins s σ H xs us Q I rs q
  rcases q with q | q
  · exact h pins s σ H xs us Q I rs q
  · exact h' pins s σ H xs us Q I rs q
theorem call_isiU {X : Cx} : CallR X (.builtin "isinstance") (rIsiU X.K) := CallR.or call_isi (CallR.or call_isiT call_isiK)
theorem kit_any2 {K : PySem.W.Frag} {t T U : String} {b b' : Bool} (h1 : kitB t T = some b) (h2 : b = false → kitB t U = some b') : PySem.W.kitAny K (.type t) [.type T, .type U] = some (b || b') := by
  refine kitAny_cons (kit_ty h1) (fun hb => ?_) fun hb => by rw [hb]; rfl
  rw [hb, Bool.false_or]
  refine kitAny_cons (kit_ty (h2 hb)) (fun hb' => ?_) fun hb' => hb'
  rw [hb']; rfl
theorem ok_isi {K : PySem.W.Frag} : OkN K (rIsiU K) isiG := fun Wx M ι s H xs us Q C r P => by
  unfold isiG at P
  split at P
  · rename_i x T
    obtain ⟨u, w, rfl, rx, rw'⟩ := r.two
    have s1 := C.sees rx
    have w1 : RepF K M (.ty T) w := rw'
    unfold RepF at w1
    subst w1
    split at P
    · rename_i b e
      unfold isT at e
      split at e
      · rename_i t et
        exact .inl ⟨u, .ty T, _, _, b, rfl, .ty T, s1.ty C.sub et, kit_ty e, Post.now (C := Rep K) P C rf_bl⟩
      · cases e
    · exact P.elim
  · rename_i x T U
    obtain ⟨u, w, rfl, rx, rw'⟩ := r.two
    have s1 := C.sees rx
    obtain ⟨a, vs, rfl, h1, r1⟩ := rw'.tup
    obtain ⟨v1, r2, rfl, q1, q2⟩ := r1.uncons
    obtain ⟨v2, r3, rfl, q3, q4⟩ := q2.uncons
    cases q4.unnil
    unfold RepF at q1 q3
    subst q1 q3
    have main : ∀ b : Bool, (∃ t, tyD (view s x) = some t ∧ PySem.W.kitAny K (.type t) [.type T, .type U] = some b) → Q (.bl b) H → rIsiU K [u, .ref a] H Q := by
      rintro b ⟨t, et, hk⟩ q
      rcases h1 with h1 | ⟨o, its, n, h1, h2, h3, h4, h5⟩
      · exact .inr (.inl ⟨u, a, _, _, _, b, rfl, C.sub _ _ h1, .cons (.ty T) (.cons (.ty U) .nil), s1.ty C.sub et, hk, q⟩)
      · obtain ⟨oc, od, dt, sl⟩ := o
        simp only at h2 h3
        subst h2 h3
        have e5 : its.toList = [.type T, .type U] := ClsV.all (.cons (.ty T) (.cons (.ty U) .nil)) h5
        have e6 : its = ([Value.type T, .type U] : List Value).toArray := by rw [← e5]
        subst e6
        exact .inr (.inr ⟨u, a, od, _, n, sl, _, b, rfl, h1, s1.ty C.sub et, hk, q⟩)
    unfold isT at P
    split at P
    · rename_i e
      split at e
      · rename_i t et
        exact main true ⟨t, et, kit_any2 (b' := true) e (fun z => nomatch z)⟩ (Post.now (C := Rep K) P C rf_bl)
      · cases e
    · rename_i e
      split at e
      · rename_i t et
        rw [et] at P
        split at P
        · rename_i b e2
          exact main b ⟨t, et, by have := kit_any2 (K := K) e (fun _ => e2); simpa using this⟩ (Post.now (C := Rep K) P C rf_bl)
        · exact P.elim
      · cases e
    · exact P.elim
  · exact P.elim
/-- list(x), one that stands for good -/
def listF (s : Sto) : List D → O D
  | [x] => match view s x with
    | .lst ds => .val (.lst ds) s
    | .tup ds => .val (.lst ds) s
    | .scr ns => .val (.lst (ns.map D.int)) s
    | _ => .stuck
  | _ => .stuck
def rListU (K : PySem.W.Frag) : List V → Hp → VK → Prop := fun xs H Q => ∃ p ys, xs = [.ref p] ∧ (SqL K H p ys ∨ SqT K H p ys) ∧ ∀ l, H l = none → Q (.ref l) (upd H l (.lst ys))
theorem RepL.ints {K : PySem.W.Frag} {M : Hp} : ∀ ns : List Int, RepL K M (ns.map D.int) (ns.map V.int)
  | [] => .nil
  | n :: ns => .cons (by unfold RepF; rfl) (RepL.ints ns)
theorem ok_list {K : PySem.W.Frag} : OkN K (rListU K) listF := fun Wx M ι s H xs us Q C r P => by
  unfold listF at P
  split at P
  · obtain ⟨u, rfl, rx⟩ := r.one
    have s1 := C.sees rx
    split at P
    · rename_i ds e
      rw [e] at s1
      obtain ⟨a, vs, rfl, h1, r1⟩ := s1
      exact ⟨a, vs, rfl, .inl (SqL.of h1), fun l hl => Post.laidL P C r1 hl⟩
    · rename_i ds e
      rw [e] at s1
      obtain ⟨a, vs, rfl, h1, r1⟩ := s1.tup
      exact ⟨a, vs, rfl, .inr (Ex.t C.sub h1.sq), fun l hl => Post.laidL P C r1 hl⟩
    · rename_i ns e
      rw [e] at s1
      have s2 : RepF K M (.scr ns) u := s1
      unfold RepF at s2
      obtain ⟨a, rfl, h1⟩ := s2
      exact ⟨a, _, rfl, .inl (Ex.l C.sub h1), fun l hl => Post.laidL P C (RepL.ints ns) hl⟩
    · exact P.elim
  · exact P.elim
end Fl
set_option Elab.async false
set_option linter.all false
set_option maxRecDepth 100000
namespace Fl
open PySem PySem.Spec PyProof.Rows L2
abbrev W0 : WX := fun _ _ _ _ => False
section
variable {X : Cx} {cl : Nat → Value} {W : WX} {st : Stmt} {sts : List Stmt} {e a b : Expr} {es : List Expr} {fa fb : EF} {fr : AF} {ff fg : SF} {pos : Pos}
/-! ### small statements -/
theorem rd_go {α β : Type} {K : PySem.W.Frag} (C : Car α β) {D : Ends} {f : Sl → Sto → O α} {k : Sl → α → Sto → OS} {σ : L2.St} {H : Hp} (h : rdS K cl W (fun δ s => (f δ s).go δ (k δ)) D σ H) :
    At K C (wx cl W σ) f σ H fun b H' => ∃ M ι δ s a, Conc K M ι s H' ∧ RepS K M ι δ σ ∧ C M ι a b ∧ PostS K cl W D M ι H' (k δ a s) := by
  obtain ⟨M, ι, δ, s, Cc, S, P⟩ := h
  refine ⟨M, ι, δ, s, Cc, S, Post.mono (PostS.go C S P) fun b H' m => ?_⟩
  obtain ⟨M', ι', a, s', t, C', r, P'⟩ := m.ex
  exact ⟨M', ι', δ, s', a, C', S.step t, r, P'⟩
def setS (i : Nat) (f : EF) : SF := fun δ s => (f δ s).go δ fun d s1 => .nx (δ.set i (some d)) s1
theorem rd_set {K : PySem.W.Frag} {te : TE} {f : EF} {i : Nat} (imp : ∀ σ H Q, rdE K cl W f σ H Q → te σ H Q) (D : Ends) (σ : L2.St) (H : Hp) (h : rdS K cl W (setS i f) D σ H) : tAsg te (gName i) D σ H := by
  obtain ⟨M, ι, δ, s, C, S, P⟩ := rd_go (Rep K) h
  refine imp σ H _ ⟨M, ι, δ, s, C, S, Post.mono P fun v H1 h => ?_⟩
  obtain ⟨M1, ι1, δ1, s1, d, C1, S1, r1, P1⟩ := h
  exact P1 M1 ι1 H1 _ Step.refl C1 (S1.set r1 i)
theorem js_set {i : Nat} {x : Str} {pos' : Pos} (hN : X.N.Nodup) (he : JE X cl W e fa) (hi : X.N[i]? = some x := by rfl) (hx : Loc X.env.scope x := by first | exact Or.inl rfl | exact Or.inr rfl) (hs : swapsWith e (some (.Name x pos')) pos.line X.env = pure false := by rfl)
    (hf : X.fn x = true ∨ X.env.scope.names.lookup x = some .local := by first | exact .inl rfl | exact .inr rfl | assumption) : JS X cl W (.Assign [.Name x pos'] e pos) (setS i fa) :=
  (ps_set hN hi hx he hs hf).imp fun D σ H h => rd_set (fun _ _ _ q => q) D σ H h
def asgS (f : EF) (g : GF) : SF := fun δ s => (f δ s).go δ fun d s1 => (g d δ s1).go δ fun δ' s2 => .nx δ' s2
theorem PostS.tg {K : PySem.W.Frag} {D : Ends} {M : Hp} {ι : List Addr} {H : Hp} {o : O Sl} {δ : Sl} {k : Sl → Sto → OS} (h : PostS K cl W D M ι H (o.go δ k)) (nx : ∀ c s, o ≠ .exc c s) : Post K (RepS K) (fun _ _ => False) M ι H o fun σ' H' => ∃ M' ι' δ' s', Step M ι H M' ι' H' ∧ Conc K M' ι' s' H' ∧ RepS K M' ι' δ' σ' ∧ PostS K cl W D M' ι' H' (k δ' s') := by
  cases o with
  | stuck => exact h
  | val δ' s' => exact fun M' ι' H' σ' t c r => ⟨M', ι', δ', s', t, c, r, PostS.step h t⟩
  | exc c s => exact absurd rfl (nx c s)
/-- a target raises nothing -/
def noX (o : O Sl) : O Sl := match o with
  | .exc _ _ => .stuck
  | o => o
theorem noX_ne {o : O Sl} : ∀ c s, noX o ≠ .exc c s := fun c s => by cases o <;> simp [noX]
theorem Post.noX {K : PySem.W.Frag} {C : Car Sl L2.St} {Wx Wx' : Nat → Hp → Prop} {M : Hp} {ι : List Addr} {H : Hp} {o : O Sl} {Q : L2.St → Hp → Prop} (h : Post K C Wx M ι H (noX o) Q) : Post K C Wx' M ι H o Q := by
  cases o with
  | stuck => exact h
  | val a s => exact h
  | exc c s => exact h.elim
def asgS' (f : EF) (g : GF) : SF := fun δ s => (f δ s).go δ fun d s1 => (noX (g d δ s1)).go δ fun δ' s2 => .nx δ' s2
theorem js_asg {tg : Expr} {g : GF} (he : JE X cl W e fa) (hg : JG X tg g) (hs : swapsWithSole [tg] e pos.line X.env = pure false := by rfl) (hw : swappedStores [tg] e X.env = pure none := by rfl)
    (h1 : (assignEach [tg] X.env).map (·.2) = [assign tg X.env] := by rfl) : JS X cl W (.Assign [tg] e pos) (asgS' fa g) := (ps_asg he hg hs hw h1).imp fun D σ H h => by
  obtain ⟨M, ι, δ, s, C, S, P⟩ := rd_go (Rep X.K) h
  refine ⟨M, ι, δ, s, C, S, Post.mono P fun v H1 h => ?_⟩
  obtain ⟨M1, ι1, δ1, s1, d, C1, S1, r1, P1⟩ := h
  refine ⟨M1, ι1, δ1, s1, d, C1, S1, r1, Post.noX (Post.mono (PostS.tg P1 noX_ne) fun σ' H' h => ?_)⟩
  obtain ⟨M2, ι2, δ2, s2, t2, C2, S2, P2⟩ := h
  exact P2 M2 ι2 H' σ' Step.refl C2 S2
def nameG (i : Nat) : GF := fun d δ s => .val (δ.set i (some d)) s
theorem jg_name {i : Nat} {x : Str} {p : Pos} (hN : X.N.Nodup) (hi : X.N[i]? = some x := by rfl) (hx : Loc X.env.scope x := by first | exact Or.inl rfl | exact Or.inr rfl) (hf : X.fn x = true ∨ X.env.scope.names.lookup x = some .local := by first | exact .inl rfl | exact .inr rfl | assumption) :
    JG X (.Name x p) (nameG i) := (pg_name hN hi hx hf).imp fun v σ H Q h => by
  obtain ⟨M, ι, δ, s, d, C, S, r, P⟩ := h
  exact Post.now (C := RepS X.K) P C (S.set r i)
/-- several targets -/
def unp : List GF → List D → Sl → Sto → O Sl
  | [], [], δ, s => .val δ s
  | g :: gs, d :: ds, δ, s => (noX (g d δ s)).bind fun δ1 s1 => unp gs ds δ1 s1
  | _, _, _, _ => .stuck
def rdGs (K : PySem.W.Frag) (gs : List GF) : TGs := fun vs σ H Q => ∃ M ι δ s ds, Conc K M ι s H ∧ RepS K M ι δ σ ∧ Reps K M ι ds vs ∧ Post K (RepS K) (fun _ _ => False) M ι H (unp gs ds δ s) Q
abbrev JGs (X : Cx) (es : List Expr) (gs : List GF) : Prop := PGs X es (rdGs X.K gs)
theorem _root_.L2.PGs.imp {es : List Expr} {t t' : TGs} (h : PGs X es t) (i : ∀ v σ H Q, t' v σ H Q → t v σ H Q) : PGs X es t' := ⟨fun pins s σ H v u Q I r q => h.run pins s σ H v u Q I r (i v σ H Q q)⟩
theorem jgs_nil : JGs X [] [] := pgs_nil.imp fun vs σ H Q h => by
  obtain ⟨M, ι, δ, s, ds, C, S, r, P⟩ := h
  cases r with
  | nil => exact ⟨rfl, Post.now (C := RepS X.K) P C S⟩
  | cons _ _ => exact P.elim
theorem jgs_cons {g : GF} {gs : List GF} (h1 : JG X e g) (h2 : JGs X es gs) (hs : (assignEach (e :: es) X.env).map (·.2) = assign e X.env :: (assignEach es X.env).map (·.2) := by rfl) : JGs X (e :: es) (g :: gs) := (pgs_cons h1 h2 hs).imp fun vs σ H Q h => by
  obtain ⟨M, ι, δ, s, ds, C, S, r, P⟩ := h
  cases r with
  | nil => exact P.elim
  | cons r1 r2 =>
    refine ⟨_, _, rfl, M, ι, δ, s, _, C, S, r1, Post.noX (Post.mono (Post.bind (RepS X.K) P) fun σ' H' m => ?_)⟩
    obtain ⟨M1, ι1, δ1, s1, t1, C1, S1, P1⟩ := m.ex
    exact ⟨M1, ι1, δ1, s1, _, C1, S1, r2.step t1, P1⟩
def tupG (gs : List GF) : GF := fun d δ s => match d with
  | .tup ds => if ds.length = gs.length then unp gs ds δ s else .stuck
  | _ => .stuck
theorem jg_tup {gs : List GF} {k : Nat} (hc : X.calm = true) (h : JGs X es gs) (hn : (assignEach es X.env).length = gs.length := by rfl) (hst : (assignEach es X.env).findIdx? (·.1) = none := by rfl) : JG X (.Tuple es k pos) (tupG gs) := (pg_tup hc h hn hst).imp fun v σ H Q h => by
  obtain ⟨M, ι, δ, s, d, C, S, r, P⟩ := h
  unfold tupG at P
  split at P
  · split at P
    · rename_i ds hl
      obtain ⟨p, vs, rfl, h1, r1⟩ := r.tup
      exact ⟨p, vs, rfl, Ex.t C.sub h1.sq, by rw [r1.length]; exact hl, M, ι, δ, s, ds, C, S, Reps.of r1, P⟩
    · exact P.elim
  · exact P.elim
def parS (i j : Nat) (f : AF) : SF := fun δ s => (f δ s).go δ fun ds s1 => match ds with
  | [x, y] => .nx ((δ.set i (some x)).set j (some y)) s1
  | _ => .stuck
theorem js_par {i j : Nat} {x y : Str} {px py pt : Pos} {kt k2 : Nat} {pt2 : Pos} (hc : X.calm = true) (hN : X.N.Nodup) (hij : i ≠ j) (ha : JA X cl W [a, b] fr) (hi : X.N[i]? = some x := by rfl) (hj : X.N[j]? = some y := by rfl)
    (hx : X.env.scope.names.lookup x = some .local := by rfl) (hy : X.env.scope.names.lookup y = some .local := by rfl)
    (hw : swappedStores [.Tuple [.Name x px, .Name y py] kt pt] (.Tuple [a, b] k2 pt2) X.env = pure (some [x, y]) := by rfl)
    (hs : swapsWithSole [.Tuple [.Name x px, .Name y py] kt pt] (.Tuple [a, b] k2 pt2) pos.line X.env = pure false := by rfl) :
    JS X cl W (.Assign [.Tuple [.Name x px, .Name y py] kt pt] (.Tuple [a, b] k2 pt2) pos) (parS i j fr) := (ps_par hc hN hi hj hij hx hy ha hw hs).imp fun D σ H h => by
  obtain ⟨M, ι, δ, s, C, S, P⟩ := rd_go (Reps X.K) h
  refine ⟨M, ι, δ, s, C, S, Post.mono P fun vs H1 h => ?_⟩
  obtain ⟨M1, ι1, δ1, s1, ds, C1, S1, r1, P1⟩ := h
  split at P1
  · obtain ⟨u, w, rfl, r2, r3⟩ := r1.two
    exact ⟨u, w, rfl, P1 M1 ι1 H1 _ Step.refl C1 ((S1.set r2 i).set r3 j)⟩
  · exact P1.elim
def par3S (i j l : Nat) (f : AF) : SF := fun δ s => (f δ s).go δ fun ds s1 => match ds with
  | [x, y, z] => .nx (((δ.set i (some x)).set j (some y)).set l (some z)) s1
  | _ => .stuck
theorem Reps.three {K : PySem.W.Frag} {M : Hp} {ι : List Addr} {x y z : D} {us : List V} (h : Reps K M ι [x, y, z] us) : ∃ u v w, us = [u, v, w] ∧ Rep K M ι x u ∧ Rep K M ι y v ∧ Rep K M ι z w := by
  cases h with
  | cons a b => obtain ⟨v, w, rfl, c, d⟩ := b.two; exact ⟨_, v, w, rfl, a, c, d⟩
theorem js_par3 {c : Expr} {i j l : Nat} {x y z : Str} {px py pz pt : Pos} {kt k2 : Nat} {pt2 : Pos} (hc : X.calm = true) (hN : X.N.Nodup) (hij : i ≠ j) (hil : i ≠ l) (hjl : j ≠ l) (ha : JA X cl W [a, b, c] fr) (hi : X.N[i]? = some x := by rfl) (hj : X.N[j]? = some y := by rfl) (hl : X.N[l]? = some z := by rfl)
    (hx : X.env.scope.names.lookup x = some .local := by rfl) (hy : X.env.scope.names.lookup y = some .local := by rfl) (hz : X.env.scope.names.lookup z = some .local := by rfl)
    (hw : swappedStores [.Tuple [.Name x px, .Name y py, .Name z pz] kt pt] (.Tuple [a, b, c] k2 pt2) X.env = pure (some [x, y, z]) := by rfl)
    (hs : swapsWithSole [.Tuple [.Name x px, .Name y py, .Name z pz] kt pt] (.Tuple [a, b, c] k2 pt2) pos.line X.env = pure false := by rfl) :
    JS X cl W (.Assign [.Tuple [.Name x px, .Name y py, .Name z pz] kt pt] (.Tuple [a, b, c] k2 pt2) pos) (par3S i j l fr) := (ps_par3 hc hN hi hj hl hij hil hjl hx hy hz ha hw hs).imp fun D σ H h => by
  obtain ⟨M, ι, δ, s, C, S, P⟩ := rd_go (Reps X.K) h
  refine ⟨M, ι, δ, s, C, S, Post.mono P fun vs H1 h => ?_⟩
  obtain ⟨M1, ι1, δ1, s1, ds, C1, S1, r1, P1⟩ := h
  split at P1
  · obtain ⟨u, v, w, rfl, r2, r3, r4⟩ := r1.three
    exact ⟨u, v, w, rfl, P1 M1 ι1 H1 _ Step.refl C1 (((S1.set r2 i).set r3 j).set r4 l)⟩
  · exact P1.elim
/-- x -= e, x += e of ints -/
def augS (g : Int → Int → Int) (i : Nat) (f : EF) : SF := fun δ s => match δ[i]? with
  | some (some (.int x)) => (f δ s).go δ fun d s1 => match d with
    | .int y => .nx (δ.set i (some (.int (g x y)))) s1
    | _ => .stuck
  | _ => .stuck
theorem js_aug {i : Nat} {x : Str} {op : Operator} {g : Int → Int → Int} {pos' : Pos} (hN : X.N.Nodup) (ho : PIp X op (ipI g)) (he : JE X cl W e fa) (hi : X.N[i]? = some x := by rfl) (hx : Loc X.env.scope x := by first | exact Or.inl rfl | exact Or.inr rfl)
    (hf : X.fn x = true ∨ X.env.scope.names.lookup x = some .local := by first | exact .inl rfl | exact .inr rfl | assumption) : JS X cl W (.AugAssign (.Name x pos') op e pos) (augS g i fa) := (ps_aug hN hi hx he ho hf).imp fun D σ H h => by
  obtain ⟨M, ι, δ, s, C, S, P⟩ := h
  unfold augS at P
  split at P
  · rename_i x e
    obtain ⟨v, h1, h2⟩ := S.2 i _ e
    cases h2.int
    refine ⟨_, h1, M, ι, δ, s, C, S, Post.mono (PostS.go (Rep X.K) S P) fun u H1 m => ?_⟩
    obtain ⟨M1, ι1, d, s1, t1, C1, r1, P1⟩ := m.ex
    split at P1
    · cases r1.int
      exact ⟨_, _, rfl, rfl, P1 M1 ι1 H1 _ Step.refl C1 ((S.step t1).set rf_int i)⟩
    · exact P1.elim
  · exact P.elim
def dropS (f : EF) : SF := fun δ s => (f δ s).go δ fun _ s1 => .nx δ s1
theorem js_expr (he : JE X cl W e fa) (hs : swapsWith e none pos.line X.env = pure false := by rfl) : JS X cl W (.Expr e pos) (dropS fa) := (ps_expr he hs).imp fun D σ H h => by
  obtain ⟨M, ι, δ, s, C, S, P⟩ := rd_go (Rep X.K) h
  refine ⟨M, ι, δ, s, C, S, Post.mono P fun v H1 h => ?_⟩
  obtain ⟨M1, ι1, δ1, s1, d, C1, S1, r1, P1⟩ := h
  exact P1 M1 ι1 H1 _ Step.refl C1 S1
def retS (f : EF) : SF := fun δ s => (f δ s).go δ fun d s1 => .rt d s1
theorem js_ret (he : JE X cl W e fa) : JS X cl W (.Return (some e) pos) (retS fa) := (ps_ret he).imp fun D σ H h => by
  obtain ⟨M, ι, δ, s, C, S, P⟩ := rd_go (Rep X.K) h
  refine ⟨M, ι, δ, s, C, S, Post.mono P fun v H1 h => ?_⟩
  obtain ⟨M1, ι1, δ1, s1, d, C1, S1, r1, P1⟩ := h
  exact P1 M1 ι1 H1 _ Step.refl C1 r1
def passS : SF := fun δ s => .nx δ s
def brkS : SF := fun δ s => .bk δ s
def ctS : SF := fun δ s => .ct δ s
def retN : SF := fun _ s => .rt .non s
theorem js_pass : JS X cl W (.Pass pos) passS := ps_pass.imp fun D σ H h => by
  obtain ⟨M, ι, δ, s, C, S, P⟩ := h
  exact P M ι H σ Step.refl C S
theorem js_brk : JS X cl W (.Break pos) brkS := ps_break.imp fun D σ H h => by
  obtain ⟨M, ι, δ, s, C, S, P⟩ := h
  exact P M ι H σ Step.refl C S
theorem js_ct : JS X cl W (.Continue pos) ctS := ps_continue.imp fun D σ H h => by
  obtain ⟨M, ι, δ, s, C, S, P⟩ := h
  exact P M ι H σ Step.refl C S
theorem js_retN : JS X cl W (.Return none pos) retN := ps_retN.imp fun D σ H h => by
  obtain ⟨M, ι, δ, s, C, S, P⟩ := h
  exact P M ι H .non Step.refl C rf_non
/-! ### blocks, if -/
def seqS (f g : SF) : SF := fun δ s => (f δ s).then g
theorem PostS.then {K : PySem.W.Frag} {D : Ends} {M : Hp} {ι : List Addr} {H : Hp} {o : OS} {g : SF} (h : PostS K cl W D M ι H (o.then g)) : PostS K cl W { D with nx := rdS K cl W g D } M ι H o := by
  cases o with
  | nx δ s => exact fun M' ι' H' σ' t c r => ⟨M', ι', δ, s, c, r, PostS.step h t⟩
  | _ => exact h
theorem jss_nil : JSs X cl W [] passS := pss_nil.imp fun D σ H h => by
  obtain ⟨M, ι, δ, s, C, S, P⟩ := h
  exact P M ι H σ Step.refl C S
theorem jss_one (h : JS X cl W st ff) : JSs X cl W [st] ff := pss_one h
theorem jss_cons (h : JS X cl W st ff) (h2 : JSs X cl W sts fg) : JSs X cl W (st :: sts) (seqS ff fg) := (pss_cons h h2).imp fun D σ H h => by
  obtain ⟨M, ι, δ, s, C, S, P⟩ := h
  exact ⟨M, ι, δ, s, C, S, PostS.then P⟩
def ifS (t : BF) (f g : SF) : SF := fun δ s => (t δ s).go δ fun b s1 => if b = true then f δ s1 else g δ s1
theorem js_if {c : Expr} {sa sb : List Stmt} {t : BF} (hc : JT X cl W c t) (ha : JSs X cl W sa ff) (hb : JSs X cl W sb fg) : JS X cl W (.If c sa sb pos) (ifS t ff fg) := (ps_if hc ha hb).imp fun D σ H h => by
  obtain ⟨M, ι, δ, s, C, S, P⟩ := rd_go CB h
  refine ⟨M, ι, δ, s, C, S, Post.mono P fun b H1 h => ?_⟩
  obtain ⟨M1, ι1, δ1, s1, d, C1, S1, rfl, P1⟩ := h
  cases b with
  | true => exact iteT ⟨M1, ι1, δ1, s1, C1, S1, P1⟩
  | false => exact iteF ⟨M1, ι1, δ1, s1, C1, S1, P1⟩
/-! ### what a loop walks -/
def ItOk (K : PySem.W.Frag) (M : Hp) (J : It) (xs : List D) : Prop := ∀ (i : Nat) (M1 : Hp) (ι1 : List Addr) (s1 : Sto) (H1 : Hp), Ex M M1 → Conc K M1 ι1 s1 H1 →
  (∀ d, xs[i]? = some d → J.go i H1 ∧ ∀ v H2, J.yld i H1 v H2 → ∃ M2, Step M1 ι1 H1 M2 ι1 H2 ∧ Conc K M2 ι1 s1 H2 ∧ Rep K M2 ι1 d v) ∧ (i = xs.length → J.stop i H1)
abbrev CI (K : PySem.W.Frag) : Car (List D) It := fun M _ xs J => ItOk K M J xs
def rdI (K : PySem.W.Frag) (cl : Nat → Value) (W : WX) (f : AF) : TI := fun σ H R => At K (CI K) (wx cl W σ) f σ H R
abbrev JI (X : Cx) (cl : Nat → Value) (W : WX) (tg e : Expr) (f : AF) : Prop := PI X tg e (rdI X.K cl W f)
theorem _root_.L2.PI.imp {tg e : Expr} {t t' : TI} (h : PI X tg e t) (i : ∀ σ H Q, t' σ H Q → t σ H Q) : PI X tg e t' := ⟨fun pins s σ H Q I q => h.run pins s σ H Q I (i σ H Q q)⟩
def loopS (g : GF) (body : SF) : List D → Sl → Sto → OS
  | [], δ, s => .nx δ s
  | x :: xs, δ, s => (noX (g x δ s)).go δ fun δ1 s1 => match body δ1 s1 with
    | .nx δ2 s2 => loopS g body xs δ2 s2
    | .ct δ2 s2 => loopS g body xs δ2 s2
    | .bk δ2 s2 => .nx δ2 s2
    | o => o
def forS (fi : AF) (g : GF) (body : SF) : SF := fun δ s => (fi δ s).go δ fun xs s1 => loopS g body xs δ s1
theorem rd_for {K : PySem.W.Frag} {fi : AF} {g : GF} {body : SF} (D : Ends) (σ : L2.St) (H : Hp) (h : rdS K cl W (forS fi g body) D σ H) : tFor (rdI K cl W fi) (rdG K g) (rdS K cl W body) D σ H := by
  obtain ⟨M, ι, δ, s, C, S, P⟩ := rd_go (CI K) h
  refine ⟨M, ι, δ, s, C, S, Post.mono P fun J H1 h => ?_⟩
  obtain ⟨M1, ι1, δ1, s1, xs, C1, S1, ok, P1⟩ := h
  refine ⟨fun i m σ H => m = xs.length - i ∧ i ≤ xs.length ∧ ∃ M' ι' δ' s', Ex M1 M' ∧ Conc K M' ι' s' H ∧ RepS K M' ι' δ' σ ∧ PostS K cl W D M' ι' H (loopS g body (xs.drop i) δ' s'), ⟨xs.length, by simp, Nat.zero_le _, M1, ι1, δ1, s1, Ex.refl _, C1, S1, P1⟩, ?_⟩
  rintro i m σ H ⟨rfl, hi, M', ι', δ', s', e', C', S', P'⟩
  obtain ⟨ok1, ok2⟩ := ok i M' ι' s' H e' C'
  by_cases hlt : i < xs.length
  · have hx : xs[i]? = some xs[i] := List.getElem?_eq_getElem hlt
    obtain ⟨go, yl⟩ := ok1 _ hx
    rw [List.drop_eq_getElem_cons hlt] at P'
    refine .inr ⟨go, fun σ H => ∃ M2 ι2 δ2 s2, Ex M1 M2 ∧ Conc K M2 ι2 s2 H ∧ RepS K M2 ι2 δ2 σ ∧ PostS K cl W D M2 ι2 H (loopS g body (xs.drop (i + 1)) δ2 s2), fun σ' H' w => ⟨xs.length - (i + 1), by omega, rfl, hlt, w⟩, fun v H2 hy => ?_⟩
    obtain ⟨M2, t2, C2, r2⟩ := yl v H2 hy
    refine ⟨M2, ι', δ', s', xs[i], C2, S'.step t2, r2, Post.noX (Post.mono (PostS.tg (PostS.step P' t2) noX_ne) fun σ3 H3 h => ?_)⟩
    obtain ⟨M3, ι3, δ3, s3, t3, C3, S3, P3⟩ := h
    refine ⟨M3, ι3, δ3, s3, C3, S3, ?_⟩
    have e3 : Ex M1 M3 := Ex.trans e' (Ex.trans t2.mm t3.mm)
    revert P3
    cases body δ3 s3 with
    | stuck => exact fun P3 => P3
    | nx δ4 s4 => exact fun P3 M4 ι4 H4 σ4 t4 C4 S4 => ⟨M4, ι4, δ4, s4, Ex.trans e3 t4.mm, C4, S4, PostS.step P3 t4⟩
    | ct δ4 s4 => exact fun P3 M4 ι4 H4 σ4 t4 C4 S4 => ⟨M4, ι4, δ4, s4, Ex.trans e3 t4.mm, C4, S4, PostS.step P3 t4⟩
    | bk δ4 s4 => exact fun P3 => P3
    | rt d s4 => exact fun P3 => P3
    | exc c δ4 s4 => exact fun P3 => P3
  · have e : i = xs.length := by omega
    refine .inl ⟨ok2 (by omega), ?_⟩
    rw [e, List.drop_length] at P'
    exact P' M' ι' H σ Step.refl C' S'
theorem js_for {tg iter : Expr} {body : List Stmt} {fi : AF} {g : GF} (hp : PassesOwn (model X.prog X.w) X.A X.env X.xe) (hc : X.calm = true) (hi : JI X cl W tg iter fi) (hg : JG X tg g) (hb : JSs X cl W body ff)
    (hs : ∀ x, foldedSetIterable iter X.env x = pure x := by intro _; rfl) : JS X cl W (.For tg iter body [] pos) (forS fi g ff) := (ps_for hp hc hi hg hb hs).imp fun D σ H h => rd_for D σ H h
/-- a list, a tuple, a text, as what it is walked by -/
def walkF (f : EF) : AF := fun δ s => (f δ s).bind fun d s1 => match d with
  | .lst ds => .val ds s1
  | .tup ds => .val ds s1
  | .str cs => .val (cs.map fun c => .str [c]) s1
  | _ => .stuck
def listF' (f : EF) : AF := fun δ s => (f δ s).bind fun d s1 => match d with
  | .lst ds => .val ds s1
  | _ => .stuck
def tupF' (f : EF) : AF := fun δ s => (f δ s).bind fun d s1 => match d with
  | .tup ds => .val ds s1
  | _ => .stuck
def strF' (f : EF) : AF := fun δ s => (f δ s).bind fun d s1 => match d with
  | .str cs => .val (cs.map fun c => .str [c]) s1
  | _ => .stuck
theorem itOk_list {K : PySem.W.Frag} {M : Hp} {a : Addr} {vs : List V} {ds : List D} (h : M a = some (.lst vs)) (r : RepL K M ds vs) : ItOk K M (Itl K a) ds := by
  intro i M1 ι1 s1 H1 e C
  have hH : H1 a = some (.lst vs) := C.sub _ _ (e _ _ h)
  constructor
  · intro d hd
    obtain ⟨v, h1, h2⟩ := r.get hd
    refine ⟨⟨vs, v, SqL.of hH, h1⟩, fun v' H2 y => ?_⟩
    obtain ⟨rfl, y⟩ := y
    have := y vs (SqL.of hH)
    rw [h1] at this; cases this
    exact ⟨M1, Step.refl, C, Rep.of (h2.mono e)⟩
  · intro hi
    exact ⟨vs, SqL.of hH, by rw [r.length]; omega⟩
theorem itOk_tup {K : PySem.W.Frag} {M : Hp} {a : Addr} {vs : List V} {ds : List D} (h : TupAt K M a vs) (r : RepL K M ds vs) : ItOk K M (Itt K a) ds := by
  intro i M1 ι1 s1 H1 e C
  have hH : SqT K H1 a vs := Ex.t C.sub (Ex.t e h.sq)
  constructor
  · intro d hd
    obtain ⟨v, h1, h2⟩ := r.get hd
    refine ⟨⟨vs, v, hH, h1⟩, fun v' H2 y => ?_⟩
    obtain ⟨rfl, y⟩ := y
    have := y vs hH
    rw [h1] at this; cases this
    exact ⟨M1, Step.refl, C, Rep.of (h2.mono e)⟩
  · intro hi
    exact ⟨vs, hH, by rw [r.length]; omega⟩
theorem itOk_str {K : PySem.W.Frag} {M : Hp} {cs : List Nat} (o : okS cs = true) : ItOk K M (Its ⟨cs.toArray⟩) (cs.map fun c => .str [c]) := by
  intro i M1 ι1 s1 H1 e C
  constructor
  · intro d hd
    rw [List.getElem?_map] at hd
    obtain ⟨c, h1, rfl⟩ := Option.map_eq_some_iff.mp hd
    refine ⟨(by have := (List.getElem?_eq_some_iff.mp h1).1; simpa using this : i < cs.toArray.size), fun v' H2 y => ?_⟩
    obtain ⟨rfl, c', h2, rfl⟩ := y
    have : c' = c := by
      simp at h2
      rw [h1] at h2
      exact (Option.some.inj h2).symm
    subst this
    exact ⟨M1, Step.refl, C, rf_str (okS_mem o (List.mem_of_getElem? h1))⟩
  · intro hi
    show cs.toArray.size ≤ i
    have : i = cs.length := by simpa using hi
    simp; omega
theorem ji_list {tg : Expr} (h : JE X cl W e fa) : JI X cl W tg e (listF' fa) := (pi_list h).imp fun σ H R h => by
  obtain ⟨M, ι, δ, s, C, S, P⟩ := h
  refine ⟨M, ι, δ, s, C, S, Post.mono (Post.bind (Rep X.K) P) fun u H1 m => ?_⟩
  obtain ⟨M1, ι1, x, s1, t1, C1, r1, P1⟩ := m.ex
  split at P1
  · obtain ⟨a, vs, rfl, h1, h2⟩ := r1.lst
    exact ⟨a, rfl, ⟨vs, SqL.of (C1.sub _ _ h1)⟩, Post.now (C := CI X.K) P1 C1 (itOk_list h1 h2)⟩
  · exact P1.elim
theorem ji_tup {tg : Expr} (h : JE X cl W e fa) : JI X cl W tg e (tupF' fa) := (pi_tup h).imp fun σ H R h => by
  obtain ⟨M, ι, δ, s, C, S, P⟩ := h
  refine ⟨M, ι, δ, s, C, S, Post.mono (Post.bind (Rep X.K) P) fun u H1 m => ?_⟩
  obtain ⟨M1, ι1, x, s1, t1, C1, r1, P1⟩ := m.ex
  split at P1
  · obtain ⟨a, vs, rfl, h1, h2⟩ := r1.tup
    exact ⟨a, rfl, ⟨vs, Ex.t C1.sub h1.sq⟩, Post.now (C := CI X.K) P1 C1 (itOk_tup h1 h2)⟩
  · exact P1.elim
theorem ji_str {tg : Expr} (h : JE X cl W e fa) : JI X cl W tg e (strF' fa) := (pi_str h).imp fun σ H R h => by
  obtain ⟨M, ι, δ, s, C, S, P⟩ := h
  refine ⟨M, ι, δ, s, C, S, Post.mono (Post.bind (Rep X.K) P) fun u H1 m => ?_⟩
  obtain ⟨M1, ι1, x, s1, t1, C1, r1, P1⟩ := m.ex
  split at P1
  · obtain ⟨rfl, o⟩ := r1.str
    exact ⟨_, rfl, Post.now (C := CI X.K) P1 C1 (itOk_str o)⟩
  · exact P1.elim
def upI (lo : Int) (n : Nat) : List D := (List.range n).map fun (i : Nat) => .int (lo + (i : Int))
def sm (i : Int) : Bool := decide (-(2 ^ 60) ≤ i) && decide (i < 2 ^ 60)
def rng1F (f : AF) : AF := fun δ s => (f δ s).bind fun ds s1 => match ds with
  | [.int j] => if sm j = true then .val (upI 0 j.toNat) s1 else .stuck
  | _ => .stuck
def rng2F (f : AF) : AF := fun δ s => (f δ s).bind fun ds s1 => match ds with
  | [.int i, .int j] => if sm i = true ∧ sm j = true then .val (upI i (j - i).toNat) s1 else .stuck
  | _ => .stuck
theorem itOk_rng {K : PySem.W.Frag} {M : Hp} {lo : Int} {n : Nat} : ItOk K M (Itr lo n) (upI lo n) := by
  intro i M1 ι1 s1 H1 e C
  constructor
  · intro d hd
    unfold upI at hd
    rw [List.getElem?_map] at hd
    obtain ⟨j, h1, rfl⟩ := Option.map_eq_some_iff.mp hd
    have hi : i < n := by have := (List.getElem?_eq_some_iff.mp h1).1; simpa using this
    have hj : j = i := by rw [List.getElem?_range hi] at h1; exact (Option.some.inj h1).symm
    subst hj
    refine ⟨hi, fun v' H2 y => ?_⟩
    obtain ⟨rfl, rfl⟩ := y
    exact ⟨M1, Step.refl, C, rf_int⟩
  · intro hi
    show n ≤ i
    have : i = n := by simpa [upI] using hi
    omega
theorem sm_lt {j : Int} (h : sm j = true) : -(2 ^ 62) ≤ j ∧ j < 2 ^ 62 := by
  unfold sm at h
  simp only [Bool.and_eq_true, decide_eq_true_eq] at h
  omega
theorem ji_range1 {tg : Expr} {p : Pos} (hg : Gl X "range") (hm : X.mg "range" = none) (ha : JA X cl W [a] fr) (hs : starEach [a] X.env = [(false, eval a X.env)] := by rfl) : JI X cl W tg (.Call (.Name "range" p) [a] [] pos) (rng1F fr) := (pi_range1 hg hm ha hs).imp fun σ H R h => by
  obtain ⟨M, ι, δ, s, C, S, P⟩ := h
  refine ⟨M, ι, δ, s, C, S, Post.mono (Post.bind (Reps X.K) P) fun u H1 m => ?_⟩
  obtain ⟨M1, ι1, x, s1, t1, C1, r1, P1⟩ := m.ex
  split at P1
  · split at P1
    · rename_i j hj
      obtain ⟨u, rfl, r2⟩ := r1.one
      cases r2.int
      exact ⟨j, rfl, (sm_lt hj).1, (sm_lt hj).2, Post.now (C := CI X.K) P1 C1 itOk_rng⟩
    · exact P1.elim
  · exact P1.elim
theorem ji_range2 {tg : Expr} {p : Pos} (hg : Gl X "range") (hm : X.mg "range" = none) (ha : JA X cl W [a, b] fr) (hs : starEach [a, b] X.env = [(false, eval a X.env), (false, eval b X.env)] := by rfl) (hs2 : starEach [b] X.env = [(false, eval b X.env)] := by rfl) :
    JI X cl W tg (.Call (.Name "range" p) [a, b] [] pos) (rng2F fr) := (pi_range2 hg hm ha hs hs2).imp fun σ H R h => by
  obtain ⟨M, ι, δ, s, C, S, P⟩ := h
  refine ⟨M, ι, δ, s, C, S, Post.mono (Post.bind (Reps X.K) P) fun u H1 m => ?_⟩
  obtain ⟨M1, ι1, x, s1, t1, C1, r1, P1⟩ := m.ex
  split at P1
  · split at P1
    · rename_i i j hj
      obtain ⟨u, w, rfl, r2, r3⟩ := r1.two
      cases r2.int
      cases r3.int
      exact ⟨i, j, rfl, ⟨(sm_lt hj.1).1, (sm_lt hj.1).2, (sm_lt hj.2).1, (sm_lt hj.2).2⟩, Post.now (C := CI X.K) P1 C1 itOk_rng⟩
    · exact P1.elim
  · exact P1.elim
/-! ### list comprehensions -/
def wipeD (δ : Sl) : List Nat → Sl
  | [] => δ
  | v :: vs => (wipeD δ vs).set v none
theorem wipe_get (σ : L2.St) (j : Nat) : ∀ vs : List Nat, (wipe σ vs)[j]? = if j ∈ vs then σ[j]?.map fun _ => none else σ[j]?
  | [] => by simp [wipe]
  | v :: vs => by
    unfold wipe
    by_cases h : v = j
    · subst h
      have ih := wipe_get σ v vs
      rw [if_pos (by simp)]
      by_cases hl : v < σ.length
      · rw [List.getElem?_set_self (by rw [wipe_length]; exact hl), List.getElem?_eq_getElem hl]; rfl
      · rw [List.getElem?_eq_none (by rw [List.length_set, wipe_length]; omega), List.getElem?_eq_none (by omega)]; rfl
    · rw [List.getElem?_set_ne h, wipe_get σ j vs]
      simp [Ne.symm h]
theorem wipe_set {σ : L2.St} {i : Nat} {x : Option V} {vs : List Nat} (h : i ∈ vs) : wipe (σ.set i x) vs = wipe σ vs := by
  apply List.ext_getElem?
  intro j
  rw [wipe_get, wipe_get]
  by_cases hj : j ∈ vs
  · rw [if_pos hj, if_pos hj]
    by_cases e : i = j
    · subst e
      rw [List.getElem?_set]
      simp
      split <;> simp [*]
    · rw [List.getElem?_set_ne e]
  · rw [if_neg hj, if_neg hj, List.getElem?_set_ne (fun e => hj (by rw [← e]; exact h))]
theorem wipe_wipe {σ : L2.St} {vs : List Nat} : wipe (wipe σ vs) vs = wipe σ vs := by
  apply List.ext_getElem?
  intro j
  rw [wipe_get, wipe_get]
  by_cases hj : j ∈ vs
  · rw [if_pos hj, if_pos hj]; simp [Function.comp_def]
  · rw [if_neg hj, if_neg hj]
theorem RepS.wipe {K : PySem.W.Frag} {M : Hp} {ι : List Addr} {δ : Sl} {σ : L2.St} (h : RepS K M ι δ σ) : ∀ vs : List Nat, RepS K M ι (wipeD δ vs) (L2.wipe σ vs)
  | [] => h
  | v :: vs => by
    obtain ⟨h1, h2⟩ := RepS.wipe h vs
    refine ⟨by unfold wipeD L2.wipe; simp [h1], fun i d e => ?_⟩
    unfold wipeD at e
    unfold L2.wipe
    by_cases hi : v = i
    · subst hi
      rw [List.getElem?_set] at e
      simp at e
    · rw [List.getElem?_set_ne hi] at e ⊢
      exact h2 i d e
/-- targets of a comprehension: its own names -/
def rdGC (K : PySem.W.Frag) (vs : List Nat) (g : GF) : TG := fun v σ H Q => ∃ M ι δ s d, Conc K M ι s H ∧ RepS K M ι δ σ ∧ Rep K M ι d v ∧ Post K (RepS K) (fun _ _ => False) M ι H (g d δ s) fun σ' H' => L2.wipe σ' vs = L2.wipe σ vs → Q σ' H'
abbrev JC (X : Cx) (vs : List Nat) (e : Expr) (g : GF) : Prop := PG X e (rdGC X.K vs g)
theorem jc_name {vs : List Nat} {i : Nat} {x : Str} {p : Pos} (hN : X.N.Nodup) (hv : i ∈ vs := by decide) (hi : X.N[i]? = some x := by rfl) (hx : Loc X.env.scope x := by first | exact Or.inl rfl | exact Or.inr rfl) (hf : X.fn x = true ∨ X.env.scope.names.lookup x = some .local := by first | exact .inl rfl | exact .inr rfl | assumption) :
    JC X vs (.Name x p) (nameG i) := (pg_name hN hi hx hf).imp fun v σ H Q h => by
  obtain ⟨M, ι, δ, s, d, C, S, r, P⟩ := h
  exact Post.now (C := RepS X.K) P C (S.set r i) (wipe_set hv)
def rdGCs (K : PySem.W.Frag) (vs : List Nat) (gs : List GF) : TGs := fun us σ H Q => ∃ M ι δ s ds, Conc K M ι s H ∧ RepS K M ι δ σ ∧ Reps K M ι ds us ∧ Post K (RepS K) (fun _ _ => False) M ι H (unp gs ds δ s) fun σ' H' => L2.wipe σ' vs = L2.wipe σ vs → Q σ' H'
abbrev JCs (X : Cx) (vs : List Nat) (es : List Expr) (gs : List GF) : Prop := PGs X es (rdGCs X.K vs gs)
theorem jcs_nil {vs : List Nat} : JCs X vs [] [] := pgs_nil.imp fun us σ H Q h => by
  obtain ⟨M, ι, δ, s, ds, C, S, r, P⟩ := h
  cases r with
  | nil => exact ⟨rfl, Post.now (C := RepS X.K) P C S rfl⟩
  | cons _ _ => exact P.elim
theorem jcs_cons {vs : List Nat} {g : GF} {gs : List GF} (h1 : JC X vs e g) (h2 : JCs X vs es gs) (hs : (assignEach (e :: es) X.env).map (·.2) = assign e X.env :: (assignEach es X.env).map (·.2) := by rfl) : JCs X vs (e :: es) (g :: gs) := (pgs_cons h1 h2 hs).imp fun us σ H Q h => by
  obtain ⟨M, ι, δ, s, ds, C, S, r, P⟩ := h
  cases r with
  | nil => exact P.elim
  | cons r1 r2 =>
    refine ⟨_, _, rfl, M, ι, δ, s, _, C, S, r1, Post.noX (Post.mono (Post.bind (RepS X.K) P) fun σ' H' m w => ?_)⟩
    obtain ⟨M1, ι1, δ1, s1, t1, C1, S1, P1⟩ := m.ex
    exact ⟨M1, ι1, δ1, s1, _, C1, S1, r2.step t1, Post.mono P1 fun σ2 H2 q w2 => q (w2.trans w)⟩
theorem jc_tup {vs : List Nat} {gs : List GF} {k : Nat} (hc : X.calm = true) (h : JCs X vs es gs) (hn : (assignEach es X.env).length = gs.length := by rfl) (hst : (assignEach es X.env).findIdx? (·.1) = none := by rfl) : JC X vs (.Tuple es k pos) (tupG gs) := (pg_tup hc h hn hst).imp fun v σ H Q h => by
  obtain ⟨M, ι, δ, s, d, C, S, r, P⟩ := h
  unfold tupG at P
  split at P
  · split at P
    · rename_i ds hl
      obtain ⟨p, us, rfl, h1, r1⟩ := r.tup
      exact ⟨p, us, rfl, Ex.t C.sub h1.sq, by rw [r1.length]; exact hl, M, ι, δ, s, ds, C, S, Reps.of r1, P⟩
    · exact P.elim
  · exact P.elim
/-- nothing raised within -/
def quiet {α : Type} (o : O α) : O α := match o with
  | .exc _ _ => .stuck
  | o => o
theorem Post.quiet {α β : Type} {K : PySem.W.Frag} {C : Car α β} {Wx Wx' : Nat → Hp → Prop} {M : Hp} {ι : List Addr} {H : Hp} {o : O α} {Q : β → Hp → Prop} (h : Post K C Wx M ι H (quiet o) Q) : Post K C Wx' M ι H o Q := by
  cases o with
  | stuck => exact h
  | val a s => exact h
  | exc c s => exact h.elim
def loopQ (q : D → Bool) (g : GF) (t : BF) (e : EF) (δ : Sl) : List D → List D → Sto → O (List D)
  | [], acc, s => .val acc s
  | x :: xs, acc, s => (noX (g x δ s)).bind fun δ1 s1 => (quiet (t δ1 s1)).bind fun b s2 =>
    if b = true then (quiet (e δ1 s2)).bind fun d s3 => if q d = true ∧ acc.length < 16000000 then loopQ q g t e δ xs (acc ++ [d]) s3 else .stuck
    else loopQ q g t e δ xs acc s2
def anyD (_ : D) : Bool := true
/-- of data that stand for good -/
def loopC (g : GF) (t : BF) (e : EF) (δ : Sl) (xs acc : List D) (s : Sto) : O (List D) := loopQ flat g t e δ xs acc s
/-- of any -/
def loopA (g : GF) (t : BF) (e : EF) (δ : Sl) (xs acc : List D) (s : Sto) : O (List D) := loopQ anyD g t e δ xs acc s
@[simp] theorem loopC_nil {g : GF} {t : BF} {e : EF} {δ : Sl} {acc : List D} {s : Sto} : loopC g t e δ [] acc s = .val acc s := rfl
@[simp] theorem loopC_cons {g : GF} {t : BF} {e : EF} {δ : Sl} {x : D} {xs acc : List D} {s : Sto} : loopC g t e δ (x :: xs) acc s = (noX (g x δ s)).bind fun δ1 s1 => (quiet (t δ1 s1)).bind fun b s2 =>
    if b = true then (quiet (e δ1 s2)).bind fun d s3 => if flat d = true ∧ acc.length < 16000000 then loopC g t e δ xs (acc ++ [d]) s3 else .stuck
    else loopC g t e δ xs acc s2 := rfl
@[simp] theorem loopA_nil {g : GF} {t : BF} {e : EF} {δ : Sl} {acc : List D} {s : Sto} : loopA g t e δ [] acc s = .val acc s := rfl
theorem loopA_cons {g : GF} {t : BF} {e : EF} {δ : Sl} {x : D} {xs acc : List D} {s : Sto} : loopA g t e δ (x :: xs) acc s = (noX (g x δ s)).bind fun δ1 s1 => (quiet (t δ1 s1)).bind fun b s2 =>
    if b = true then (quiet (e δ1 s2)).bind fun d s3 => if acc.length < 16000000 then loopA g t e δ xs (acc ++ [d]) s3 else .stuck
    else loopA g t e δ xs acc s2 := by
  simp only [loopA, loopQ, anyD, true_and]
def compF (fi : AF) (vs : List Nat) (g : GF) (t : BF) (e : EF) : EF := fun δ s => (fi δ s).bind fun xs s1 => (loopC g t e (wipeD δ vs) xs [] s1).bind fun ds s2 => .val (.lst ds) s2
/-- a list of one's own -/
def compO (fi : AF) (vs : List Nat) (g : GF) (t : BF) (e : EF) : EF := fun δ s => (fi δ s).bind fun xs s1 => (loopA g t e (wipeD δ vs) xs [] s1).bind fun ds s2 => .val (.ob s2.length) (s2 ++ [.lst ds])
theorem Step.own {M M' : Hp} {ι ι' : List Addr} {H H' : Hp} {p : Addr} {o : HO} (t : Step M ι H M' ι' H') (h : H p = none) : Step M ι H M' ι' (upd H' p o) :=
  ⟨t.mm, t.ii, fun a u e n => by rw [upd_ne (ne_of_none e h)]; exact t.fr a u e n, t.im, t.mn⟩
/-- p is on the way: nobody's, and holds acc -/
structure Way (K : PySem.W.Frag) (M1 : Hp) (ι1 : List Addr) (H1 : Hp) (p : Addr) (acc : List D) (M : Hp) (ι : List Addr) (s : Sto) (H : Hp) : Prop where
  st : Step M1 ι1 H1 M ι H
  C : Conc K M ι s H
  np : H1 p = none
  nM : M p = none
  ni : p ∉ ι
  at_ : ∃ vs, H p = some (.lst vs) ∧ Reps K M ι acc vs
theorem Way.start {K : PySem.W.Frag} {M1 : Hp} {ι1 : List Addr} {s : Sto} {H1 : Hp} {p : Addr} (C : Conc K M1 ι1 s H1) (h : H1 p = none) : Way K M1 ι1 H1 p [] M1 ι1 s (upd H1 p (.lst [])) := by
  obtain ⟨hM, hi⟩ := C.fresh h
  obtain ⟨C1, t1⟩ := C.over (o := .lst []) h
  exact ⟨t1, C1, h, hM, hi, [], upd_same, .nil⟩
theorem Way.go {K : PySem.W.Frag} {M1 : Hp} {ι1 : List Addr} {H1 : Hp} {p : Addr} {acc : List D} {M M' : Hp} {ι ι' : List Addr} {s s' : Sto} {H H' : Hp} (w : Way K M1 ι1 H1 p acc M ι s H) (t : Step M ι H M' ι' H') (C : Conc K M' ι' s' H') : Way K M1 ι1 H1 p acc M' ι' s' H' := by
  obtain ⟨vs, h1, h2⟩ := w.at_
  have there : H p ≠ none := by rw [h1]; simp
  refine ⟨w.st.trans t, C, w.np, ?_, fun z => ?_, vs, t.fr p _ h1 w.ni, h2.step t⟩
  · cases e : M' p with
    | none => rfl
    | some o =>
      rcases t.mn p (by rw [e]; simp) with z | z | z
      · exact absurd w.nM z
      · exact absurd z w.ni
      · exact absurd z there
  · rcases t.im p z with q | q
    · exact w.ni q
    · exact there q
theorem Way.put {K : PySem.W.Frag} {M1 : Hp} {ι1 : List Addr} {H1 : Hp} {p : Addr} {acc : List D} {M : Hp} {ι : List Addr} {s : Sto} {H : Hp} {d : D} {v : V} {vs : List V} (w : Way K M1 ι1 H1 p acc M ι s H) (hp : H p = some (.lst vs)) (hr : Reps K M ι acc vs) (r : Rep K M ι d v) : Way K M1 ι1 H1 p (acc ++ [d]) M ι s (upd H p (.lst (vs ++ [v]))) :=
  ⟨w.st.own w.np, w.C.own w.nM w.ni, w.np, w.nM, w.ni, _, upd_same, hr.append (.cons r .nil)⟩
theorem Way.froz {K : PySem.W.Frag} {M1 : Hp} {ι1 : List Addr} {H1 : Hp} {p : Addr} {acc : List D} {M : Hp} {ι : List Addr} {s : Sto} {H : Hp} {Wx : Nat → Hp → Prop} {Q : VK} (w : Way K M1 ι1 H1 p acc M ι s H) (f : ∀ d ∈ acc, flat d = true) (P : Post K (Rep K) Wx M1 ι1 H1 (.val (.lst acc) s) Q) : Q (.ref p) H := by
  obtain ⟨vs, h1, h2⟩ := w.at_
  have C' := w.C.freeze w.nM w.ni h1
  refine P (upd M p (.lst vs)) ι H _ ⟨Ex.trans w.st.mm (Ex.new w.nM), w.st.ii, w.st.fr, w.st.im, fun a e => ?_⟩ C' (Rep.of (by unfold RepF; exact ⟨p, vs, rfl, upd_same, (h2.flat (by unfold flats; rw [List.all_eq_true]; exact f)).mono (Ex.new w.nM)⟩))
  by_cases q : a = p
  · subst q; exact .inr (.inr w.np)
  · rw [upd_ne q] at e; exact w.st.mn a e
theorem Way.owned {K : PySem.W.Frag} {M1 : Hp} {ι1 : List Addr} {H1 : Hp} {p : Addr} {acc : List D} {M : Hp} {ι : List Addr} {s : Sto} {H : Hp} {Wx : Nat → Hp → Prop} {Q : VK} (w : Way K M1 ι1 H1 p acc M ι s H) (_ : ∀ d ∈ acc, anyD d = true) (P : Post K (Rep K) Wx M1 ι1 H1 (.val (.ob s.length) (s ++ [.lst acc])) Q) : Q (.ref p) H := by
  obtain ⟨vs, h1, h2⟩ := w.at_
  have C' : Conc K M (ι ++ [p]) (s ++ [.lst acc]) H := w.C.join w.ni ⟨w.nM, vs, h1, h2.mono (Ex.refl M) ii_app⟩
  refine P M (ι ++ [p]) H _ ⟨w.st.mm, fun k a h => ii_app k a (w.st.ii k a h), w.st.fr, fun a h => ?_, w.st.mn⟩ C' ⟨p, rfl, by rw [← w.C.len]; simp⟩
  rcases List.mem_append.mp h with h | h
  · exact w.st.im a h
  · obtain rfl : a = p := by simpa using h
    exact .inr w.np
theorem rd_lcx {K : PySem.W.Frag} {q : D → Bool} {fi : AF} {vs : List Nat} {g : GF} {t : BF} {f : EF} {fin : List D → Sto → O D}
    (hfin : ∀ {M1 : Hp} {ι1 : List Addr} {H1 : Hp} {p : Addr} {acc : List D} {M : Hp} {ι : List Addr} {s : Sto} {H : Hp} {Wx : Nat → Hp → Prop} {Q : VK}, Way K M1 ι1 H1 p acc M ι s H → (∀ d ∈ acc, q d = true) → Post K (Rep K) Wx M1 ι1 H1 (fin acc s) Q → Q (.ref p) H)
    (σ : L2.St) (H : Hp) (Q : VK) (h : rdE K cl W (fun δ s => (fi δ s).bind fun xs s1 => (loopQ q g t f (wipeD δ vs) xs [] s1).bind fin) σ H Q) : tLc (rdI K cl W fi) (rdGC K vs g) (rdT K cl W0 t) (rdE K cl W0 f) vs σ H Q := by
  obtain ⟨M, ι, δ, s, C, S, P⟩ := h
  refine ⟨M, ι, δ, s, C, S, Post.mono (Post.bind (CI K) P) fun J H1 m p hp => ?_⟩
  obtain ⟨M1, ι1, xs, s1, t1, C1, ok, P1⟩ := m.ex
  have S1 := S.step t1
  refine ⟨fun i m H => m = xs.length - i ∧ i ≤ xs.length ∧ ∃ M' ι' s' acc, Way K M1 ι1 H1 p acc M' ι' s' H ∧ (∀ d ∈ acc, q d = true) ∧ Post K (Rep K) (wx cl W σ) M1 ι1 H1 ((loopQ q g t f (wipeD δ vs) (xs.drop i) acc s').bind fin) Q, ⟨xs.length, by simp, Nat.zero_le _, M1, ι1, s1, [], Way.start C1 hp, (fun _ z => nomatch z), P1⟩, ?_⟩
  rintro i m H ⟨rfl, hi, M', ι', s', acc, w, fl, P'⟩
  obtain ⟨ok1, ok2⟩ := ok i M' ι' s' H w.st.mm w.C
  by_cases hlt : i < xs.length
  · obtain ⟨go, yl⟩ := ok1 _ (List.getElem?_eq_getElem hlt)
    rw [List.drop_eq_getElem_cons hlt] at P'
    refine .inr ⟨go, fun H => ∃ M2 ι2 s2 acc2, Way K M1 ι1 H1 p acc2 M2 ι2 s2 H ∧ (∀ d ∈ acc2, q d = true) ∧ Post K (Rep K) (wx cl W σ) M1 ι1 H1 ((loopQ q g t f (wipeD δ vs) (xs.drop (i + 1)) acc2 s2).bind fin) Q, fun H' z => ⟨xs.length - (i + 1), by omega, rfl, hlt, z⟩, fun v H2 hy => ?_⟩
    obtain ⟨M2, t2, C2, r2⟩ := yl v H2 hy
    have w2 := w.go t2 C2
    refine ⟨M2, ι', wipeD δ vs, s', xs[i], C2, (S1.step w2.st).wipe vs, r2, ?_⟩
    unfold loopQ at P'
    revert P'
    cases g xs[i] (wipeD δ vs) s' with
    | stuck => exact fun P' => P'
    | exc c s'' => exact fun P' => P'.elim
    | val δ3 s3 =>
      intro P' M3 ι3 H3 σ3 t3 C3 S3 hw
      have w3 := w2.go t3 C3
      refine ⟨hw.trans wipe_wipe, M3, ι3, δ3, s3, C3, S3, ?_⟩
      have P3 : Post K (Rep K) (wx cl W σ) M1 ι1 H1 (((quiet (t δ3 s3)).bind fun b s2 => if b = true then (quiet (f δ3 s2)).bind fun d s3 => if q d = true ∧ acc.length < 16000000 then loopQ q g t f (wipeD δ vs) (xs.drop (i + 1)) (acc ++ [d]) s3 else .stuck else loopQ q g t f (wipeD δ vs) (xs.drop (i + 1)) acc s2).bind fin) Q := P'
      revert P3
      cases t δ3 s3 with
      | stuck => exact fun P3 => P3
      | exc c s'' => exact fun P3 => P3.elim
      | val b s4 =>
        intro P3 M4 ι4 H4 b' t4 C4 hb
        subst hb
        have w4 := w3.go t4 C4
        cases b' with
        | false => exact iteF ⟨M4, ι4, s4, acc, w4, fl, P3⟩
        | true =>
          refine iteT ⟨M4, ι4, δ3, s4, C4, S3.step t4, ?_⟩
          have P4 : Post K (Rep K) (wx cl W σ) M1 ι1 H1 (((quiet (f δ3 s4)).bind fun d s3 => if q d = true ∧ acc.length < 16000000 then loopQ q g t f (wipeD δ vs) (xs.drop (i + 1)) (acc ++ [d]) s3 else .stuck).bind fin) Q := P3
          revert P4
          cases f δ3 s4 with
          | stuck => exact fun P4 => P4
          | exc c s'' => exact fun P4 => P4.elim
          | val d s5 =>
            intro P4 M5 ι5 H5 y t5 C5 r5
            have w5 := w4.go t5 C5
            have P5 : Post K (Rep K) (wx cl W σ) M1 ι1 H1 ((if q d = true ∧ acc.length < 16000000 then loopQ q g t f (wipeD δ vs) (xs.drop (i + 1)) (acc ++ [d]) s5 else .stuck).bind fin) Q := P4
            by_cases hc : q d = true ∧ acc.length < 16000000
            · rw [if_pos hc] at P5
              obtain ⟨us, h1, h2⟩ := w5.at_
              exact ⟨us, h1, by rw [h2.length]; exact Nat.lt_of_lt_of_le hc.2 (by decide), M5, ι5, s5, acc ++ [d], w5.put h1 h2 r5, (fun d' z => (List.mem_append.mp z).elim (fl d') fun z => by rw [List.mem_singleton.mp z]; exact hc.1), P5⟩
            · rw [if_neg hc] at P5
              exact P5.elim
  · have e : i = xs.length := by omega
    rw [e, List.drop_length] at P'
    exact .inl ⟨ok2 (by omega), hfin w fl P'⟩
theorem rd_lc {K : PySem.W.Frag} {fi : AF} {vs : List Nat} {g : GF} {t : BF} {f : EF} (σ : L2.St) (H : Hp) (Q : VK) (h : rdE K cl W (compF fi vs g t f) σ H Q) : tLc (rdI K cl W fi) (rdGC K vs g) (rdT K cl W0 t) (rdE K cl W0 f) vs σ H Q := rd_lcx (q := flat) (fin := fun ds s2 => .val (.lst ds) s2) Way.froz σ H Q h
theorem rd_lcO {K : PySem.W.Frag} {fi : AF} {vs : List Nat} {g : GF} {t : BF} {f : EF} (σ : L2.St) (H : Hp) (Q : VK) (h : rdE K cl W (compO fi vs g t f) σ H Q) : tLc (rdI K cl W fi) (rdGC K vs g) (rdT K cl W0 t) (rdE K cl W0 f) vs σ H Q := rd_lcx (q := anyD) (fin := fun ds s2 => .val (.ob s2.length) (s2 ++ [SO.lst ds])) Way.owned σ H Q h
def yes : BF := fun _ s => .val true s
abbrev JTs (X : Cx) (cl : Nat → Value) (W : WX) (es : List Expr) (f : BF) : Prop := PTs X es (rdT X.K cl W f)
theorem jts_nil : JTs X cl W [] yes := ⟨fun pins s σ H Q I h => by
  obtain ⟨M, ι, δ, s', C, S, P⟩ := h
  exact pts_nil.run pins s σ H Q I (Post.now (C := CB) P C rfl)⟩
theorem jts_one {t : BF} (h : JT X cl W e t) : JTs X cl W [e] t := pts_one h
theorem je_lc {elt tg iter : Expr} {ifs : List Expr} {scope : Scope} {own : List (Str × Nat)} {vs : List Nat} {fi : AF} {g : GF} {t : BF} {f : EF} (hc : X.calm = true) (hN : X.N.Nodup) (hi : JI X cl W tg iter fi) (ok : BlkOk X.N X.env.scope scope own)
    (hg : ∀ (s : Shared) (H : Hp) (C : Addr) (cls : List (Str × Addr)) (fp : List Addr), JC (X.blk s H scope (compEnvC scope cls C X.env) fp) vs tg g) (ht : ∀ (s : Shared) (H : Hp) (C : Addr) (cls : List (Str × Addr)) (fp : List Addr), JTs (X.blk s H scope (compEnvC scope cls C X.env) fp) cl W0 ifs t)
    (he : ∀ (s : Shared) (H : Hp) (C : Addr) (cls : List (Str × Addr)) (fp : List Addr), JE (X.blk s H scope (compEnvC scope cls C X.env) fp) cl W0 elt f) (hvs : own.map (·.2) = vs := by rfl) (hs : ∀ x, foldedSetIterable iter X.env x = pure x := by intro _; rfl) :
    JE X cl W (.ListComp elt [⟨tg, iter, ifs, 0⟩] scope pos) (compF fi vs g t f) := by
  subst hvs
  exact (pe_lc hc hN hi ok hg ht he hs).imp rd_lc
theorem je_lcO {elt tg iter : Expr} {ifs : List Expr} {scope : Scope} {own : List (Str × Nat)} {vs : List Nat} {fi : AF} {g : GF} {t : BF} {f : EF} (hc : X.calm = true) (hN : X.N.Nodup) (hi : JI X cl W tg iter fi) (ok : BlkOk X.N X.env.scope scope own)
    (hg : ∀ (s : Shared) (H : Hp) (C : Addr) (cls : List (Str × Addr)) (fp : List Addr), JC (X.blk s H scope (compEnvC scope cls C X.env) fp) vs tg g) (ht : ∀ (s : Shared) (H : Hp) (C : Addr) (cls : List (Str × Addr)) (fp : List Addr), JTs (X.blk s H scope (compEnvC scope cls C X.env) fp) cl W0 ifs t)
    (he : ∀ (s : Shared) (H : Hp) (C : Addr) (cls : List (Str × Addr)) (fp : List Addr), JE (X.blk s H scope (compEnvC scope cls C X.env) fp) cl W0 elt f) (hvs : own.map (·.2) = vs := by rfl) (hs : ∀ x, foldedSetIterable iter X.env x = pure x := by intro _; rfl) :
    JE X cl W (.ListComp elt [⟨tg, iter, ifs, 0⟩] scope pos) (compO fi vs g t f) := by
  subst hvs
  exact (pe_lc hc hN hi ok hg ht he hs).imp rd_lcO
theorem js_setLc {i : Nat} {y : Str} {py spos : Pos} {elt tg iter : Expr} {ifs : List Expr} {scope : Scope} {own : List (Str × Nat)} {vs : List Nat} {fi : AF} {g : GF} {t : BF} {f : EF} (hc : X.calm = true) (hN : X.N.Nodup) (hsw : swapsWith (.ListComp elt [⟨tg, iter, ifs, 0⟩] scope pos) (some (.Name y py)) spos.line X.env = pure true) (hi : JI X cl W tg iter fi) (ok : BlkOk X.N X.env.scope scope own)
    (hg : ∀ (s : Shared) (H : Hp) (C : Addr) (cls : List (Str × Addr)) (fp : List Addr), JC (X.blk s H scope (compEnvC scope cls C X.env) fp) vs tg g) (ht : ∀ (s : Shared) (H : Hp) (C : Addr) (cls : List (Str × Addr)) (fp : List Addr), JTs (X.blk s H scope (compEnvC scope cls C X.env) fp) cl W0 ifs t)
    (he : ∀ (s : Shared) (H : Hp) (C : Addr) (cls : List (Str × Addr)) (fp : List Addr), JE (X.blk s H scope (compEnvC scope cls C X.env) fp) cl W0 elt f) (hy : X.N[i]? = some y := by rfl) (hyl : X.env.scope.names.lookup y = some .local := by rfl) (hvs : own.map (·.2) = vs := by rfl) (hs : ∀ x, foldedSetIterable iter X.env x = pure x := by intro _; rfl) :
    JS X cl W (.Assign [.Name y py] (.ListComp elt [⟨tg, iter, ifs, 0⟩] scope pos) spos) (setS i (compF fi vs g t f)) := by
  subst hvs
  exact (ps_setLc hc hN hy hyl hsw hi ok hg ht he hs).imp fun D σ H h => rd_set rd_lc D σ H h
theorem js_setLcO {i : Nat} {y : Str} {py spos : Pos} {elt tg iter : Expr} {ifs : List Expr} {scope : Scope} {own : List (Str × Nat)} {vs : List Nat} {fi : AF} {g : GF} {t : BF} {f : EF} (hc : X.calm = true) (hN : X.N.Nodup) (hsw : swapsWith (.ListComp elt [⟨tg, iter, ifs, 0⟩] scope pos) (some (.Name y py)) spos.line X.env = pure true) (hi : JI X cl W tg iter fi) (ok : BlkOk X.N X.env.scope scope own)
    (hg : ∀ (s : Shared) (H : Hp) (C : Addr) (cls : List (Str × Addr)) (fp : List Addr), JC (X.blk s H scope (compEnvC scope cls C X.env) fp) vs tg g) (ht : ∀ (s : Shared) (H : Hp) (C : Addr) (cls : List (Str × Addr)) (fp : List Addr), JTs (X.blk s H scope (compEnvC scope cls C X.env) fp) cl W0 ifs t)
    (he : ∀ (s : Shared) (H : Hp) (C : Addr) (cls : List (Str × Addr)) (fp : List Addr), JE (X.blk s H scope (compEnvC scope cls C X.env) fp) cl W0 elt f) (hy : X.N[i]? = some y := by rfl) (hyl : X.env.scope.names.lookup y = some .local := by rfl) (hvs : own.map (·.2) = vs := by rfl) (hs : ∀ x, foldedSetIterable iter X.env x = pure x := by intro _; rfl) :
    JS X cl W (.Assign [.Name y py] (.ListComp elt [⟨tg, iter, ifs, 0⟩] scope pos) spos) (setS i (compO fi vs g t f)) := by
  subst hvs
  exact (ps_setLc hc hN hy hyl hsw hi ok hg ht he hs).imp fun D σ H h => rd_set rd_lcO D σ H h
end
/-! ### defs -/
def startD (N : List Str) (ds : List D) : Sl := ds.map some ++ List.replicate (N.length - ds.length) none
/-- as it stands at the end: a list made here, and the lists in it, stand for good -/
def dfz (n : Nat) (s : Sto) : Nat → D → Option D
  | 0, d => if flat d = true then some d else none
  | k + 1, d => match d with
    | .ob j => if n ≤ j then match s[j]? with
        | some (.lst ds) => (ds.mapM (dfz n s k)).map D.lst
        | _ => none
      else none
    | d => some d
open Classical in
/-- a body, as a function: what it made itself is forgotten -/
noncomputable def outF (s : Sto) : OS → O D
  | .rt d s' => if Chk s s' then if low s.length d = true then .val d (s'.take s.length) else match dfz s.length s' 3 d with
      | some d' => .val d' (s'.take s.length)
      | none => .stuck
    else .stuck
  | .nx _ s' => if Chk s s' then .val .non (s'.take s.length) else .stuck
  | .exc c _ s' => if Chk s s' then .exc c (s'.take s.length) else .stuck
  | _ => .stuck
noncomputable def fnF (N : List Str) (n : Nat) (body : SF) : FF := fun ds s => if ds.length = n then outF s (body (startD N ds) s) else .stuck
/-- .. that keeps what it made -/
def outK : OS → O D
  | .rt d s' => .val d s'
  | .nx _ s' => .val .non s'
  | .exc c _ s' => .exc c s'
  | _ => .stuck
def fnK (N : List Str) (n : Nat) (body : SF) : FF := fun ds s => if ds.length = n then outK (body (startD N ds) s) else .stuck
theorem dfz_rep {K : PySem.W.Frag} {M M' : Hp} {ι : List Addr} {s : Sto} {H : Hp} {n : Nat} (C : Conc K M ι s H) (ex : Ex M M') (hm : ∀ (k : Nat) (a : Addr) (ds : List D), n ≤ k → ι[k]? = some a → s[k]? = some (.lst ds) → M' a = H a) :
    ∀ (k : Nat) {d d' : D} {v : V}, Rep K M ι d v → dfz n s k d = some d' → RepF K M' d' v
  | 0, d, d', v, r, e => by
    unfold dfz at e
    split at e
    · rename_i f; cases e; exact (r.f f).mono ex
    · cases e
  | k + 1, d, d', v, r, e => by
    cases d with
    | ob j =>
      unfold dfz at e
      simp only at e
      split at e
      · rename_i hn
        split at e
        · rename_i ds hs
          obtain ⟨es, h1, rfl⟩ := Option.map_eq_some_iff.mp e
          obtain ⟨a, rfl, hj⟩ := r
          obtain ⟨_, vs, h2, h3⟩ := C.obs j a _ hj hs
          have main : ∀ {ds es : List D} {vs : List V}, Reps K M ι ds vs → ds.mapM (dfz n s k) = some es → RepL K M' es vs := by
            intro ds es vs r
            induction r generalizing es with
            | nil => intro h; simp at h; subst h; exact .nil
            | cons a _ ih =>
              intro h
              rw [List.mapM_cons] at h
              obtain ⟨x, hx, h⟩ := Option.bind_eq_some_iff.mp h
              obtain ⟨xs, hxs, h⟩ := Option.bind_eq_some_iff.mp h
              cases h
              exact .cons (dfz_rep C ex hm k a hx) (ih hxs)
          unfold RepF
          exact ⟨a, vs, rfl, by rw [hm j a ds hn hj hs]; exact h2, main h3 h1⟩
        · cases e
      · cases e
    | _ =>
      unfold dfz at e
      cases e
      exact RepF.mono ex r
def SpF (K : PySem.W.Frag) (cl : Nat → Value) (n : Nat) (F : FF) : Sp := fun vs H Q E => ∃ M ι s ds, Conc K M ι s H ∧ Reps K M ι ds vs ∧ ds.length = n ∧ Post K (Rep K) (fun c H' => E (cl c) none H') M ι H (F ds s) Q
/-- a def at its place -/
structure JAt (P : Program) (w : World) (K : PySem.W.Frag) (mg : Str → Option Value) (base : Heap) (cl : Nat → Value) (k : Nat) (f : Addr) (n : Nat) (F : FF) : Prop where
  ex : ∃ (fd : FuncData) (ps : List Str), PySem.W.keepIn K (.ref f) = true ∧ Binds K fd ps [] ∧ FnOk P w K mg base (L2.CX P w) k f fd ps (SpF K cl n F)
/-- .. by its name -/
structure JFn (P : Program) (w : World) (K : PySem.W.Frag) (mg : Str → Option Value) (base : Heap) (cl : Nat → Value) (k : Nat) (x : Str) (n : Nat) (F : FF) : Prop where
  ex : ∃ f : Addr, mg x = some (.ref f) ∧ JAt P w K mg base cl k f n F
abbrev FnP (K : PySem.W.Frag) (x qual : Str) (st : Stmt) (f : Addr) (fd : FuncData) : Prop := FunD K x qual (defArgs st) (defBody st) (defScope st) [] [] f fd
theorem RepS.begun {K : PySem.W.Frag} {M : Hp} {ι : List Addr} {ds : List D} {vs : List V} (N : List Str) (r : Reps K M ι ds vs) : RepS K M ι (startD N ds) (L2.start N vs) := by
  constructor
  · unfold startD L2.start; simp [r.length]
  · intro i d h
    unfold startD at h
    unfold L2.start
    by_cases hi : i < ds.length
    · rw [List.getElem?_append_left (by simpa using hi)] at h
      rw [List.getElem?_append_left (by simpa [r.length] using hi)]
      rw [List.getElem?_map] at h ⊢
      obtain ⟨d', h1, h2⟩ := Option.map_eq_some_iff.mp h
      cases h2
      have : ∀ {ds : List D} {vs : List V} {i : Nat}, Reps K M ι ds vs → ds[i]? = some d → ∃ v, vs[i]? = some v ∧ Rep K M ι d v := by
        intro ds vs i r
        induction r generalizing i with
        | nil => intro h; simp at h
        | cons a _ ih =>
          intro h
          cases i with
          | zero => simp at h; subst h; exact ⟨_, rfl, a⟩
          | succ i => simp at h; simpa using ih h
      obtain ⟨v, h3, h4⟩ := this r h1
      exact ⟨v, by rw [h3]; rfl, h4⟩
    · rw [List.getElem?_append_right (by simpa using hi)] at h
      obtain ⟨h1, h2⟩ := List.getElem?_eq_some_iff.mp h
      simp at h2
section
variable {P : Program} {w : World} {K : PySem.W.Frag} {mg : Str → Option Value} {base : Heap} {cl : Nat → Value}
/-- a def of the text -/
theorem fn_fo {x qual : Str} {st : Stmt} {f : Addr} {fd : FuncData} {N ps : List Str} {k : Nat} {body : SF} (F : FnP K x qual st f fd) (S : FnScope N ps (defScope st))
    (hbody : ∀ (cdv : Value) (A : Around) (outer : List Env) (s : Shared) (H : Hp) (E : XK), Room k (A.deeper (envOfC qual (defScope st) s.heap.objs.size f cdv)) → Takes (cxOf (L2.CX P w) P w K mg base N qual (defScope st) f cdv A outer s H E) (fun cls d _ H => E cls d H) →
      PassesOwn (model P w) (A.deeper (envOfC qual (defScope st) s.heap.objs.size f cdv)) (envOfC qual (defScope st) s.heap.objs.size f cdv) (cxOf (L2.CX P w) P w K mg base N qual (defScope st) f cdv A outer s H E).xe →
      JSs (cxOf (L2.CX P w) P w K mg base N qual (defScope st) f cdv A outer s H E) cl (fun cls d _ H => E cls d H) (defBody st) body) :
    FnOk P w K mg base (L2.CX P w) (k + 1) f fd ps (SpF K cl ps.length (fnF N ps.length body)) := by
  refine F.ok S (fun vs H Q E h => ?_) fun cdv A outer s H vs Q E hr h => ?_
  · obtain ⟨M, ι, s, ds, _, r, e, _⟩ := h
    rw [r.length, e]
  · obtain ⟨M, ι, st', ds, C, r, e, Pq⟩ := h
    refine ⟨rdS K cl (fun cls d _ H => E cls d H) body, ?_, ?_⟩
    · exact hbody cdv A outer s H E hr (takes_of rfl rfl rfl rfl) (passes_of (X := cxOf (L2.CX P w) P w K mg base N qual (defScope st) f cdv A outer s H E) rfl)
    · refine ⟨M, ι, startD N ds, st', C, RepS.begun N r, ?_⟩
      unfold fnF at Pq
      rw [if_pos e] at Pq
      revert Pq
      cases body (startD N ds) st' with
      | stuck => exact fun Pq => Pq
      | bk δ s' => exact fun Pq => Pq.elim
      | ct δ s' => exact fun Pq => Pq.elim
      | nx δ s' =>
        intro Pq M' ι' H' σ' t C' S'
        simp only [outF] at Pq
        split at Pq
        · rename_i ck
          obtain ⟨M2, C2, t2, _, _⟩ := C.back t C' ck
          exact Pq M2 _ H' .non t2 C2 rf_non
        · exact Pq.elim
      | exc c δ s' =>
        intro Pq M' ι' H' σ' t C' S'
        simp only [outF] at Pq
        split at Pq
        · rename_i ck
          obtain ⟨M2, C2, t2, _, _⟩ := C.back t C' ck
          exact Pq M2 _ H' t2 C2
        · exact Pq.elim
      | rt d s' =>
        intro Pq M' ι' H' v t C' r'
        simp only [outF] at Pq
        split at Pq
        · rename_i ck
          obtain ⟨M2, C2, t2, ex, hm⟩ := C.back t C' ck
          split at Pq
          · rename_i hl
            exact Pq M2 _ H' v t2 C2 ((r'.low hl).mono ex fun _ _ q => q)
          · split at Pq
            · rename_i d' hd
              exact Pq M2 _ H' v t2 C2 (Rep.of (dfz_rep C' ex hm 3 r' hd))
            · exact Pq.elim
        · exact Pq.elim
theorem fn_ok {x qual : Str} {st : Stmt} {f : Addr} {fd : FuncData} {N ps : List Str} {k : Nat} {body : SF} (F : FnP K x qual st f fd) (b : Binds K fd ps []) (S : FnScope N ps (defScope st))
    (hbody : ∀ (cdv : Value) (A : Around) (outer : List Env) (s : Shared) (H : Hp) (E : XK), Room k (A.deeper (envOfC qual (defScope st) s.heap.objs.size f cdv)) → Takes (cxOf (L2.CX P w) P w K mg base N qual (defScope st) f cdv A outer s H E) (fun cls d _ H => E cls d H) →
      PassesOwn (model P w) (A.deeper (envOfC qual (defScope st) s.heap.objs.size f cdv)) (envOfC qual (defScope st) s.heap.objs.size f cdv) (cxOf (L2.CX P w) P w K mg base N qual (defScope st) f cdv A outer s H E).xe →
      JSs (cxOf (L2.CX P w) P w K mg base N qual (defScope st) f cdv A outer s H E) cl (fun cls d _ H => E cls d H) (defBody st) body) :
    JAt P w K mg base cl (k + 1) f ps.length (fnF N ps.length body) := ⟨fd, ps, F.kp, b, fn_fo F S hbody⟩
theorem fn_foK {x qual : Str} {st : Stmt} {f : Addr} {fd : FuncData} {N ps : List Str} {k : Nat} {body : SF} (F : FnP K x qual st f fd) (S : FnScope N ps (defScope st))
    (hbody : ∀ (cdv : Value) (A : Around) (outer : List Env) (s : Shared) (H : Hp) (E : XK), Room k (A.deeper (envOfC qual (defScope st) s.heap.objs.size f cdv)) → Takes (cxOf (L2.CX P w) P w K mg base N qual (defScope st) f cdv A outer s H E) (fun cls d _ H => E cls d H) →
      PassesOwn (model P w) (A.deeper (envOfC qual (defScope st) s.heap.objs.size f cdv)) (envOfC qual (defScope st) s.heap.objs.size f cdv) (cxOf (L2.CX P w) P w K mg base N qual (defScope st) f cdv A outer s H E).xe →
      JSs (cxOf (L2.CX P w) P w K mg base N qual (defScope st) f cdv A outer s H E) cl (fun cls d _ H => E cls d H) (defBody st) body) :
    FnOk P w K mg base (L2.CX P w) (k + 1) f fd ps (SpF K cl ps.length (fnK N ps.length body)) := by
  refine F.ok S (fun vs H Q E h => ?_) fun cdv A outer s H vs Q E hr h => ?_
  · obtain ⟨M, ι, s, ds, _, r, e, _⟩ := h
    rw [r.length, e]
  · obtain ⟨M, ι, st', ds, C, r, e, Pq⟩ := h
    refine ⟨rdS K cl (fun cls d _ H => E cls d H) body, ?_, ?_⟩
    · exact hbody cdv A outer s H E hr (takes_of rfl rfl rfl rfl) (passes_of (X := cxOf (L2.CX P w) P w K mg base N qual (defScope st) f cdv A outer s H E) rfl)
    · refine ⟨M, ι, startD N ds, st', C, RepS.begun N r, ?_⟩
      unfold fnK at Pq
      rw [if_pos e] at Pq
      revert Pq
      cases body (startD N ds) st' with
      | stuck => exact fun Pq => Pq
      | bk δ s' => exact fun Pq => Pq.elim
      | ct δ s' => exact fun Pq => Pq.elim
      | nx δ s' => exact fun Pq M' ι' H' σ' t C' S' => Pq M' ι' H' .non t C' rf_non
      | exc c δ s' => exact fun Pq M' ι' H' σ' t C' S' => Pq M' ι' H' t C'
      | rt d s' => exact fun Pq M' ι' H' v t C' r' => Pq M' ι' H' v t C' r'
theorem fn_okK {x qual : Str} {st : Stmt} {f : Addr} {fd : FuncData} {N ps : List Str} {k : Nat} {body : SF} (F : FnP K x qual st f fd) (b : Binds K fd ps []) (S : FnScope N ps (defScope st))
    (hbody : ∀ (cdv : Value) (A : Around) (outer : List Env) (s : Shared) (H : Hp) (E : XK), Room k (A.deeper (envOfC qual (defScope st) s.heap.objs.size f cdv)) → Takes (cxOf (L2.CX P w) P w K mg base N qual (defScope st) f cdv A outer s H E) (fun cls d _ H => E cls d H) →
      PassesOwn (model P w) (A.deeper (envOfC qual (defScope st) s.heap.objs.size f cdv)) (envOfC qual (defScope st) s.heap.objs.size f cdv) (cxOf (L2.CX P w) P w K mg base N qual (defScope st) f cdv A outer s H E).xe →
      JSs (cxOf (L2.CX P w) P w K mg base N qual (defScope st) f cdv A outer s H E) cl (fun cls d _ H => E cls d H) (defBody st) body) :
    JAt P w K mg base cl (k + 1) f ps.length (fnK N ps.length body) := ⟨fd, ps, F.kp, b, fn_foK F S hbody⟩
/-- a def of which nothing is said -/
theorem fn_none {x qual : Str} {st : Stmt} {f : Addr} {fd : FuncData} {N ps : List Str} {k : Nat} (F : FnP K x qual st f fd) (b : Binds K fd ps []) (S : FnScope N ps (defScope st)) : JAt P w K mg base cl k f ps.length (fun _ _ => .stuck) := by
  have no : ∀ vs H Q E, SpF K cl ps.length (fun _ _ => .stuck) vs H Q E → False := fun vs H Q E h => by
    obtain ⟨M, ι, s, ds, _, _, _, e⟩ := h
    exact e
  exact ⟨fd, ps, F.kp, b, fun vs H Q E h => (no _ _ _ _ h).elim, fun A outer s H args us vs Q E _ _ _ _ h => (no _ _ _ _ h).elim⟩
end
def callF (n : Nat) (F : FF) (fr : AF) : EF := fun δ s => (fr δ s).bind fun xs s1 => if xs.length = n then F xs s1 else .stuck
theorem je_call {X : Cx} {cl : Nat → Value} {W : WX} {x : Str} {p pos : Pos} {e : Expr} {es : List Expr} {fr : AF} {n k j : Nat} {F : FF} (J : JFn X.prog X.w X.K X.mg X.base cl k x n F) (hr : Room j X.A) (hk : k ≤ j) (tk : Takes X W) (hg : Gl X x) (ha : JA X cl W (e :: es) fr)
    (hdb : (x == ("__debug__" : Str)) = false := by decide) (he : starEach (e :: es) X.env = (false, eval e X.env) :: starEach es X.env := by rfl) (hpl : (backTo pos (starEach es X.env)).any (·.1) = false := by rfl) :
    JE X cl W (.Call (.Name x p) (e :: es) [] pos) (callF n F fr) := by
  obtain ⟨f, hm, J⟩ := J.ex
  obtain ⟨fd, ps, kp, b, G⟩ := J.ex
  refine (pe_callS G (hr.mono hk) hg hm kp b (fun σ => passAt tk σ) ha hdb he hpl).imp fun σ H Q h => ?_
  obtain ⟨M, ι, δ, s, C, S, Pq⟩ := h
  refine ⟨M, ι, δ, s, C, S, Post.mono (Post.bind (Reps X.K) Pq) fun us H1 m => ?_⟩
  obtain ⟨M1, ι1, xs, s1, t1, C1, r1, P1⟩ := m.ex
  split at P1
  · rename_i hn
    exact ⟨M1, ι1, s1, xs, C1, r1, hn, P1⟩
  · exact P1.elim
/-- the law's own promise -/
theorem law_sp {K : PySem.W.Frag} {cl : Nat → Value} {F : FF} (h : ∀ ns : List Int, ns.length ≤ 63 → ∃ s, F [.scr ns] [] = .val (.bl true) s) (H : Hp) (a : Addr) (ns : List Int) (hl : ns.length ≤ 63) (hS : SqL K H a (ns.map V.int)) :
    SpF K cl 1 F [.ref a] H (fun v _ => v = .bl true) fun _ _ _ => False := by
  obtain ⟨s, e⟩ := h ns hl
  refine ⟨H, [], [], [.scr ns], ⟨Ex.refl H, rfl, List.nodup_nil, fun k a o h => by simp at h⟩, .cons (Rep.of (by unfold RepF; exact ⟨a, rfl, hS⟩)) .nil, rfl, ?_⟩
  rw [e]
  intro M' ι' H' b _ _ r
  exact r.bl
theorem cx_none {P : Program} {w : World} {H : Hp} {s : Shared} {e : Value} {s' : Shared} (h : L2.CX P w [] H s (fun _ _ _ => False) e s') : False := by
  obtain ⟨_, _, _, _, _, _, _, _, _, _, _, _, z⟩ := h
  exact z.elim
end Fl
set_option Elab.async false
set_option linter.all false
set_option maxRecDepth 100000
namespace Fl
open PySem PySem.Spec PyProof.Rows L2
theorem bb_len : bootBuiltins "len" = some (.builtin "len") := by decide +kernel
theorem bb_int : bootBuiltins "int" = some (.type "int") := by decide +kernel
theorem bb_str : bootBuiltins "str" = some (.type "str") := by decide +kernel
theorem bb_bool : bootBuiltins "bool" = some (.type "bool") := by decide +kernel
theorem bb_list : bootBuiltins "list" = some (.type "list") := by decide +kernel
theorem bb_tuple : bootBuiltins "tuple" = some (.type "tuple") := by decide +kernel
theorem bb_set : bootBuiltins "set" = some (.type "set") := by decide +kernel
theorem bb_isinstance : bootBuiltins "isinstance" = some (.builtin "isinstance") := by decide +kernel
theorem bb_min : bootBuiltins "min" = some (.builtin "min") := by decide +kernel
theorem bb_max : bootBuiltins "max" = some (.builtin "max") := by decide +kernel
theorem bb_sum : bootBuiltins "sum" = some (.builtin "sum") := by decide +kernel
theorem bb_all : bootBuiltins "all" = some (.builtin "all") := by decide +kernel
theorem bb_sorted : bootBuiltins "sorted" = some (.builtin "sorted") := by decide +kernel
section
variable {X : Cx} {cl : Nat → Value} {W : WX} {st : Stmt} {sts : List Stmt} {e a b : Expr} {es : List Expr} {fa fb : EF} {fr : AF} {ff fg : SF} {pos : Pos}
theorem _root_.L2.PI.or {tg e : Expr} {t t' : TI} (h : PI X tg e t) (h' : PI X tg e t') : PI X tg e (fun σ H R => t σ H R ∨ t' σ H R) := ⟨fun pins s σ H Q I q => q.elim (h.run pins s σ H Q I) (h'.run pins s σ H Q I)⟩
/-- a list, a tuple, a text that stands for good -/
theorem ji_any {tg : Expr} (h : JE X cl W e fa) : JI X cl W tg e (walkF fa) := (((ji_list (tg := tg) h).or (ji_tup h)).or (ji_str h)).imp fun σ H R h => by
  obtain ⟨M, ι, δ, s, C, S, P⟩ := h
  unfold walkF at P
  cases q : fa δ s with
  | stuck => rw [q] at P; exact P.elim
  | exc c s' => rw [q] at P; exact .inl (.inl ⟨M, ι, δ, s, C, S, by unfold listF'; rw [q]; exact P⟩)
  | val d s' =>
    rw [q, O.bind_val] at P
    split at P
    · exact .inl (.inl ⟨M, ι, δ, s, C, S, by unfold listF'; rw [q]; exact P⟩)
    · exact .inl (.inr ⟨M, ι, δ, s, C, S, by unfold tupF'; rw [q]; exact P⟩)
    · exact .inr ⟨M, ι, δ, s, C, S, by unfold strF'; rw [q]; exact P⟩
    · exact P.elim
/-! ### * -/
def repS (k : Nat) (a : List Nat) : List Nat := (List.replicate k a).flatten
def rMulS : R2 := fun x y H Q => ∃ (a : List Nat) (k : Int), x = .str ⟨a.toArray⟩ ∧ y = .int k ∧ 0 ≤ k ∧ k ≤ 1000 ∧ a.length ≤ 1000 ∧ Q (.str ⟨(repS k.toNat a).toArray⟩) H
theorem fold_app (a : List Nat) : ∀ (n : Nat) (b : List Nat), List.foldl (fun x1 x2 => x1 ++ x2) b.toArray (List.replicate n a.toArray) = (b ++ repS n a).toArray
  | 0, b => by simp [repS]
  | n + 1, b => by
    rw [List.replicate_succ, List.foldl_cons]
    have := fold_app a n (b ++ a)
    simp only [List.append_toArray] at this ⊢
    rw [this]
    unfold repS
    rw [List.replicate_succ, List.flatten_cons, List.append_assoc]
theorem op_mulS : OpR X (binaryOp .Mult) rMulS := by
  intro pins s σ H x y v u Q I rx ry h
  obtain ⟨a, k, rfl, rfl, h1, h2, h3, q⟩ := h
  obtain ⟨t, rfl⟩ := rx
  obtain ⟨t', rfl⟩ := ry
  have hlen : (⟨a.toArray⟩ : Str).length = a.length := by simp [Str.length]
  refine P.mul_str ?_ ?_ ?_ ?_
  · rw [decide_eq_false (by omega), decide_eq_false (by omega)]; rfl
  · intro _ _
    rw [hlen]
    have h4 : (1000 : Int) ≤ (2 ^ 63 - 1) / k := by
      rw [Int.le_ediv_iff_mul_le (by omega)]
      omega
    omega
  · intro _ _
    rw [hlen]
    unfold Builtin.Str.tooLong
    rw [decide_eq_false]
    rw [sizeLine_eq]
    have : a.length * k.toNat ≤ 1000 * 1000 := Nat.mul_le_mul h3 (by omega)
    omega
  · split
    · obtain rfl : k = 0 := by omega
      exact ⟨by decide, ⟨.str ⟨#[]⟩, H, I.tok _, ⟨_, rfl⟩, q⟩⟩
    · split
      · rename_i hc
        have e : repS k.toNat a = a := by
          rw [hlen] at hc
          simp only [Bool.or_eq_true, beq_iff_eq] at hc
          rcases hc with rfl | hc
          · simp [repS]
          · have : a = [] := List.eq_nil_of_length_eq_zero hc
            subst this
            simp [repS]
        rw [e] at q
        exact ⟨.str ⟨a.toArray⟩, H, I, ⟨_, rfl⟩, q⟩
      · have e : List.foldl (fun x1 x2 => x1 ++ x2) #[] (List.replicate k.toNat a.toArray) = (repS k.toNat a).toArray := by
          have := fold_app a k.toNat []
          rwa [List.nil_append] at this
        have hl : (repS k.toNat a).length ≤ 1000000 := by
          unfold repS
          rw [List.length_flatten, List.map_replicate, List.sum_replicate_nat]
          have : k.toNat * a.length ≤ 1000 * 1000 := Nat.mul_le_mul (by omega) h3
          omega
        show (Made.str ⟨List.foldl (fun x1 x2 => x1 ++ x2) #[] (List.replicate k.toNat a.toArray)⟩).post (EP X pins σ Q) s
        rw [e]
        refine ⟨?_, ⟨.str ⟨(repS k.toNat a).toArray⟩, H, I.tok _, ⟨_, rfl⟩, q⟩⟩
        show (repS k.toNat a).toArray.size ≤ sizeLine
        rw [List.size_toArray, sizeLine_eq]; omega
def mulG : Op2 := fun s x y => match view s x, y with
  | .int i, .int j => if big i = true ∨ big j = true then .val (.int (i * j)) s else .stuck
  | .lst a, .int k => if sm k = true ∧ a.length * k.toNat ≤ 16000000 then .val (.lst (List.replicate k.toNat a).flatten) s else .stuck
  | .tup a, .int k => if 0 < a.length ∧ a.length ≤ 1000 ∧ 2 ≤ k ∧ k ≤ 1000 then .val (.tup (List.replicate k.toNat a).flatten) s else .stuck
  | .str a, .int k => if (0 ≤ k ∧ k ≤ 1000) ∧ a.length ≤ 1000 then .val (.str (repS k.toNat a)) s else .stuck
  | _, _ => .stuck
def rMulU (K : PySem.W.Frag) : R2 := fun x y H Q => (((rI CMul fun i j => .int (i * j)) x y H Q ∨ rRep x y H Q) ∨ rRepT K x y H Q) ∨ rMulS x y H Q
theorem op_mulU : OpR X (binaryOp .Mult) (rMulU X.K) := ((op_mul.or op_rep).or op_repT).or op_mulS
theorem okS_rep {a : List Nat} (h : okS a = true) : ∀ k : Nat, okS (repS k a) = true
  | 0 => rfl
  | k + 1 => by
    have := okS_app h (okS_rep h k)
    unfold repS at this ⊢
    rwa [List.replicate_succ, List.flatten_cons]
theorem RepL.rep {K : PySem.W.Frag} {M : Hp} {ds : List D} {vs : List V} (r : RepL K M ds vs) : ∀ k : Nat, RepL K M (List.replicate k ds).flatten (List.replicate k vs).flatten
  | 0 => .nil
  | k + 1 => by
    rw [List.replicate_succ, List.replicate_succ, List.flatten_cons, List.flatten_cons]
    exact r.append (RepL.rep r k)
theorem big_lt {j : Int} (h : big j = true) : -(2 ^ 64) < j ∧ j < 2 ^ 64 := by
  unfold big at h
  simp only [Bool.and_eq_true, decide_eq_true_eq] at h
  exact h
theorem ok_mul {K : PySem.W.Frag} : Ok2 K (rMulU K) mulG := fun Wx M ι s H x y u v Q C rx ry P => by
  have s1 := C.sees rx
  unfold mulG at P
  split at P
  · rename_i e1
    rw [e1] at s1
    split at P
    · rename_i hb
      exact .inl (.inl (.inl ⟨_, _, s1.int, ry.int, hb.imp big_lt big_lt, Post.now (C := Rep K) P C rf_int⟩))
    · exact P.elim
  · rename_i a k e1
    rw [e1] at s1
    split at P
    · rename_i hc
      obtain ⟨p, vs, rfl, h1, r1⟩ := s1
      exact .inl (.inl (.inr ⟨p, k, vs, rfl, ry.int, h1, by have := (sm_lt hc.1).1; omega, by have := (sm_lt hc.1).2; omega, by rw [r1.length]; exact lim_le hc.2, fun l hl => Post.laidL P C (r1.rep _) hl⟩))
    · exact P.elim
  · rename_i a k e1
    rw [e1] at s1
    split at P
    · rename_i hc
      obtain ⟨p, vs, rfl, h1, r1⟩ := s1.tup
      have hl := r1.length
      exact .inl (.inr ⟨p, k, vs, rfl, ry.int, Ex.t C.sub h1.sq, fun z => by rw [z] at hl; simp at hl; omega, hc.2.2.1, hc.2.2.2, by omega, fun l hl => Post.laidT P C (r1.rep _) hl⟩)
    · exact P.elim
  · rename_i a k e1
    rw [e1] at s1
    split at P
    · rename_i hc
      obtain ⟨rfl, ok⟩ := s1.str
      exact .inr ⟨a, k, rfl, ry.int, hc.1.1, hc.1.2, hc.2, Post.now (C := Rep K) P C (rf_str (okS_rep ok _))⟩
    · exact P.elim
  · exact P.elim
end
/-- a law of the layer: the written part, the function, what it is as a function -/
theorem law_end {l : PySem.W.OpenLaw} {k : Nat} {q : Program} {loose : List Str} {XP : (Str → Option Value) → Heap → Prop} {YP : World → Heap → Prop} {d : DefRec} {m : FF}
    (hn : l.most = some 63) (hdf : d.params.defaults = []) (hr : Room k callerA) (hm : ∀ ns : List Int, ns.length ≤ 63 → ∃ s, m [.scr ns] [] = .val (.bl true) s)
    (F : ∀ (w : World) (mg : Str → Option Value) (f : Addr) (h : Heap), YP w h → h.Ns mainGlobals mg → mg d.name = some (.ref f) →
      ∃ (K : PySem.W.Frag) (fd : FuncData) (cl : Nat → Value), K.In h ∧ (∀ (s : Shared) (u : Value), BindsTo s fd ⟨[u], []⟩ [("script", u)]) ∧ ∀ base : Heap, K.In base → base.Ns mainGlobals mg → FnOk l.prog w K mg base (L2.CX l.prog w) k f fd ["script"] (SpF K cl 1 m)) :
    PySem.W.WalkO q loose XP YP l.row.toRowW d [] (fun f vs => PySem.call f vs) := by
  refine Att.attach_call hn hdf ?_
  intro w _ s₁ mg _ f _ _ _ _ a _ ns G Y _ _ _ hmg hobj his hlen hg
  obtain ⟨K, fd, cl, KX, hb, hF⟩ := F w mg f _ Y G.T.g hmg
  have hz : ns.length ≤ sizeLine := Nat.le_trans hlen (by decide)
  exact law_call KX G.T.g G.T.b G.T.builtins G.T.nolimit hg hobj his hz hr hF hb (fun H _ hS => law_sp hm H a ns hlen hS) fun _ _ _ h => cx_none h
end Fl
set_option Elab.async false
set_option linter.all false
set_option maxRecDepth 100000
namespace Fl
/-! ### how functions on data are reckoned -/
section
variable {δ : Sl} {s : Sto} {i j : Nat} {d x y : D} {f fa fb fc : EF} {fr : AF} {ff fg : SF} {ta tb : BF}
@[simp] theorem e_var : varF i δ s = (match δ[i]? with | some (some d) => .val d s | _ => .stuck) := rfl
@[simp] theorem e_c : cF d δ s = .val d s := rfl
@[simp] theorem e_bin {g : Op2} : bin g fa fb δ s = (fa δ s).bind fun x s1 => (fb δ s1).bind fun y s2 => g s2 x y := rfl
@[simp] theorem e_una {g : Op1} : una g fa δ s = (fa δ s).bind fun x s1 => g s1 x := rfl
@[simp] theorem e_nil : nil δ s = .val [] s := rfl
@[simp] theorem e_con : con fa fr δ s = (fa δ s).bind fun x s1 => (fr δ s1).bind fun xs s2 => .val (x :: xs) s2 := rfl
@[simp] theorem e_fnB {g : Sto → List D → O D} : fnB g fr δ s = (fr δ s).bind fun xs s1 => g s1 xs := rfl
@[simp] theorem e_chain {g g' : Op2} : chain g g' fa fb fc δ s = (fa δ s).bind fun x s1 => (fb δ s1).bind fun y s2 => (g s2 x y).bind fun z s3 => match z with
  | .bl true => (fc δ s3).bind fun w s4 => g' s4 y w
  | .bl false => .val (.bl false) s3
  | _ => .stuck := rfl
@[simp] theorem e_tst : tst fa δ s = (fa δ s).bind fun x s1 => match x with
  | .bl b => .val b s1
  | _ => .stuck := rfl
@[simp] theorem e_andT : andT ta tb δ s = (ta δ s).bind fun b s1 => if b = true then tb δ s1 else .val false s1 := rfl
@[simp] theorem e_orT : orT ta tb δ s = (ta δ s).bind fun b s1 => if b = true then .val true s1 else tb δ s1 := rfl
@[simp] theorem e_notT : notT ta δ s = (ta δ s).bind fun b s1 => .val (!b) s1 := rfl
@[simp] theorem e_andE : andE fa fb δ s = (fa δ s).bind fun x s1 => match x with
  | .bl true => fb δ s1
  | .bl false => .val (.bl false) s1
  | _ => .stuck := rfl
@[simp] theorem e_orE : orE fa fb δ s = (fa δ s).bind fun x s1 => match x with
  | .bl false => fb δ s1
  | .bl true => .val (.bl true) s1
  | _ => .stuck := rfl
@[simp] theorem e_notE : notE fa δ s = (fa δ s).bind fun x s1 => match x with
  | .bl b => .val (.bl (!b)) s1
  | _ => .stuck := rfl
@[simp] theorem e_ite : iteE ta fa fb δ s = (ta δ s).bind fun b s1 => if b = true then fa δ s1 else fb δ s1 := rfl
@[simp] theorem e_tup : tupE fr δ s = (fr δ s).bind fun xs s1 => if flats xs = true ∧ xs.length ≤ 16000000 then .val (.tup xs) s1 else .stuck := rfl
@[simp] theorem e_lst : lstE fr δ s = (fr δ s).bind fun xs s1 => if flats xs = true ∧ xs.length ≤ 16000000 then .val (.lst xs) s1 else .stuck := rfl
@[simp] theorem e_own : ownE fr δ s = (fr δ s).bind fun xs s1 => if xs.length ≤ 16000000 then .val (.ob s1.length) (s1 ++ [.lst xs]) else .stuck := rfl
@[simp] theorem e_call {n : Nat} {F : FF} : callF n F fr δ s = (fr δ s).bind fun xs s1 => if xs.length = n then F xs s1 else .stuck := rfl
@[simp] theorem e_walk : walkF f δ s = (f δ s).bind fun d s1 => match d with
  | .lst ds => .val ds s1
  | .tup ds => .val ds s1
  | .str cs => .val (cs.map fun c => .str [c]) s1
  | _ => .stuck := rfl
@[simp] theorem e_rng1 : rng1F fr δ s = (fr δ s).bind fun ds s1 => match ds with
  | [.int j] => if sm j = true then .val (upI 0 j.toNat) s1 else .stuck
  | _ => .stuck := rfl
@[simp] theorem e_rng2 : rng2F fr δ s = (fr δ s).bind fun ds s1 => match ds with
  | [.int i, .int j] => if sm i = true ∧ sm j = true then .val (upI i (j - i).toNat) s1 else .stuck
  | _ => .stuck := rfl
@[simp] theorem e_comp {fi : AF} {vs : List Nat} {g : GF} {t : BF} {e : EF} : compF fi vs g t e δ s = (fi δ s).bind fun xs s1 => (loopC g t e (wipeD δ vs) xs [] s1).bind fun ds s2 => .val (.lst ds) s2 := rfl
@[simp] theorem e_compO {fi : AF} {vs : List Nat} {g : GF} {t : BF} {e : EF} : compO fi vs g t e δ s = (fi δ s).bind fun xs s1 => (loopA g t e (wipeD δ vs) xs [] s1).bind fun ds s2 => .val (.ob s2.length) (s2 ++ [.lst ds]) := rfl
/-! statements -/
@[simp] theorem e_set : setS i f δ s = (f δ s).go δ fun d s1 => .nx (δ.set i (some d)) s1 := rfl
@[simp] theorem e_asg {g : GF} : asgS' f g δ s = (f δ s).go δ fun d s1 => (noX (g d δ s1)).go δ fun δ' s2 => .nx δ' s2 := rfl
@[simp] theorem e_name : nameG i d δ s = .val (δ.set i (some d)) s := rfl
@[simp] theorem e_tupG {gs : List GF} : tupG gs d δ s = (match d with
  | .tup ds => if ds.length = gs.length then unp gs ds δ s else .stuck
  | _ => .stuck) := rfl
@[simp] theorem e_unp0 : unp [] [] δ s = .val δ s := rfl
@[simp] theorem e_unp1 {g : GF} {gs : List GF} {ds : List D} : unp (g :: gs) (d :: ds) δ s = (noX (g d δ s)).bind fun δ1 s1 => unp gs ds δ1 s1 := rfl
@[simp] theorem noX_val : noX (.val δ s) = .val δ s := rfl
@[simp] theorem noX_stuck : noX .stuck = .stuck := rfl
@[simp] theorem quiet_val {α : Type} {a : α} : quiet (.val a s) = .val a s := rfl
@[simp] theorem quiet_stuck {α : Type} : quiet (.stuck : O α) = .stuck := rfl
@[simp] theorem e_par : parS i j fr δ s = (fr δ s).go δ fun ds s1 => match ds with
  | [x, y] => .nx ((δ.set i (some x)).set j (some y)) s1
  | _ => .stuck := rfl
@[simp] theorem e_par3 {l : Nat} : par3S i j l fr δ s = (fr δ s).go δ fun ds s1 => match ds with
  | [x, y, z] => .nx (((δ.set i (some x)).set j (some y)).set l (some z)) s1
  | _ => .stuck := rfl
@[simp] theorem e_aug {g : Int → Int → Int} : augS g i f δ s = (match δ[i]? with
  | some (some (.int x)) => (f δ s).go δ fun d s1 => match d with
    | .int y => .nx (δ.set i (some (.int (g x y)))) s1
    | _ => .stuck
  | _ => .stuck) := rfl
@[simp] theorem e_drop : dropS f δ s = (f δ s).go δ fun _ s1 => .nx δ s1 := rfl
@[simp] theorem e_ret : retS f δ s = (f δ s).go δ fun d s1 => .rt d s1 := rfl
@[simp] theorem e_pass : passS δ s = .nx δ s := rfl
@[simp] theorem e_brk : brkS δ s = .bk δ s := rfl
@[simp] theorem e_ct : ctS δ s = .ct δ s := rfl
@[simp] theorem e_retN : retN δ s = .rt .non s := rfl
@[simp] theorem e_seq : seqS ff fg δ s = (ff δ s).then fg := rfl
@[simp] theorem e_if : ifS ta ff fg δ s = (ta δ s).go δ fun b s1 => if b = true then ff δ s1 else fg δ s1 := rfl
@[simp] theorem e_for {fi : AF} {g : GF} : forS fi g ff δ s = (fi δ s).go δ fun xs s1 => loopS g ff xs δ s1 := rfl
/-! the end of a def -/
@[simp] theorem Chk.refl {s : Sto} : Chk s s := fun k _ => .inl rfl
@[simp] theorem Chk.nil {s : Sto} : Chk [] s := fun k h => absurd h (by simp)
@[simp] theorem Chk.app {s j : Sto} : Chk s (s ++ j) := fun k h => .inl (List.getElem?_append_left h)
@[simp] theorem Chk.set {s : Sto} {t : Nat} {o : SO} (h : lowO s.length o = true) : Chk s (s.set t o) := fun k hk => by
  by_cases e : k = t
  · subst e; exact .inr ⟨o, List.getElem?_set_self hk, h⟩
  · exact .inl (List.getElem?_set_ne (Ne.symm e))
theorem Chk.setApp {s j : Sto} {t : Nat} {o : SO} (h : lowO s.length o = true) : Chk s (s.set t o ++ j) := fun k hk => by
  rw [List.getElem?_append_left (by simpa using hk)]
  exact Chk.set h k hk
section
variable {n : Nat}
@[simp] theorem low_non : low n .non = true := rfl
@[simp] theorem low_bl {b : Bool} : low n (.bl b) = true := rfl
@[simp] theorem low_int {b : Int} : low n (.int b) = true := rfl
@[simp] theorem low_str {b : List Nat} : low n (.str b) = true := rfl
@[simp] theorem low_tup {b : List D} : low n (.tup b) = true := rfl
@[simp] theorem low_lst {b : List D} : low n (.lst b) = true := rfl
@[simp] theorem low_ty {b : String} : low n (.ty b) = true := rfl
@[simp] theorem low_scr {b : List Int} : low n (.scr b) = true := rfl
end
theorem low_flat {n : Nat} {d : D} (h : flat d = true) : low n d = true := by cases d <;> first | rfl | cases h
@[simp] theorem low_ob {n k : Nat} : low n (.ob k) = decide (k < n) := rfl
@[simp] theorem lows_nil {n : Nat} : lows n [] = true := rfl
@[simp] theorem lows_cons {n : Nat} {d : D} {ds : List D} : lows n (d :: ds) = (low n d && lows n ds) := rfl
@[simp] theorem lowO_lst {n : Nat} {ds : List D} : lowO n (.lst ds) = lows n ds := rfl
theorem lows_flats {n : Nat} {ds : List D} (h : flats ds = true) : lows n ds = true := by
  unfold lows; unfold flats at h
  rw [List.all_eq_true] at h ⊢
  exact fun d hd => low_flat (h d hd)
@[simp] theorem outF_rt {s s' : Sto} {d : D} (f : low s.length d = true) (c : Chk s s') : outF s (.rt d s') = .val d (s'.take s.length) := by
  unfold outF; simp only; rw [if_pos c, if_pos f]
theorem outF_frz {s s' : Sto} {d d' : D} (f : low s.length d = false) (c : Chk s s') (z : dfz s.length s' 3 d = some d') : outF s (.rt d s') = .val d' (s'.take s.length) := by
  unfold outF; simp only; rw [if_pos c, if_neg (by rw [f]; decide), z]
@[simp] theorem outF_nx {s s' : Sto} {δ : Sl} (c : Chk s s') : outF s (.nx δ s') = .val .non (s'.take s.length) := by
  unfold outF; simp only; rw [if_pos c]
theorem outF_exc {s s' : Sto} {δ : Sl} {n : Nat} (c : Chk s s') : outF s (.exc n δ s') = .exc n (s'.take s.length) := by
  unfold outF; simp only; rw [if_pos c]
@[simp] theorem outK_rt {s : Sto} {d : D} : outK (.rt d s) = .val d s := rfl
@[simp] theorem outK_nx {s : Sto} {δ : Sl} : outK (.nx δ s) = .val .non s := rfl
@[simp] theorem take_set {t : Nat} {o : SO} : (s.set t o).take s.length = s.set t o := List.take_of_length_le (by simp)
@[simp] theorem pow18 : powG s (.int 10) (.int 18) = .val (.int 1000000000000000000) s := rfl
@[simp] theorem pow12 : powG s (.int 10) (.int 12) = .val (.int 1000000000000) s := rfl
/-! values -/
@[simp] theorem flat_non : flat .non = true := rfl
@[simp] theorem flat_bl {b : Bool} : flat (.bl b) = true := rfl
@[simp] theorem flat_int {b : Int} : flat (.int b) = true := rfl
@[simp] theorem flat_str {b : List Nat} : flat (.str b) = true := rfl
@[simp] theorem flat_tup {b : List D} : flat (.tup b) = true := rfl
@[simp] theorem flat_lst {b : List D} : flat (.lst b) = true := rfl
@[simp] theorem flat_ty {b : String} : flat (.ty b) = true := rfl
@[simp] theorem flats_nil : flats [] = true := rfl
@[simp] theorem flats_cons {ds : List D} : flats (d :: ds) = (flat d && flats ds) := by simp [flats]
@[simp] theorem dep_non : dep .non = 0 := by unfold dep; rfl
@[simp] theorem dep_bl {b : Bool} : dep (.bl b) = 0 := by unfold dep; rfl
@[simp] theorem dep_int {b : Int} : dep (.int b) = 0 := by unfold dep; rfl
@[simp] theorem dep_str {b : List Nat} : dep (.str b) = 0 := by unfold dep; rfl
@[simp] theorem dep_tup {b : List D} : dep (.tup b) = deps b + 1 := by rw [dep]
@[simp] theorem dep_lst {b : List D} : dep (.lst b) = deps b + 1 := by rw [dep]
@[simp] theorem deps_nil : deps [] = 0 := by rw [deps]
@[simp] theorem deps_cons {ds : List D} : deps (d :: ds) = max (dep d) (deps ds) := by rw [deps]
@[simp] theorem deq_int {i j : Int} : deq (.int i) (.int j) = (i == j) := by simp [deq, toPy, PySem.PyData.eqv]
@[simp] theorem deq_bl {i j : Bool} : deq (.bl i) (.bl j) = (i == j) := by simp [deq, toPy, PySem.PyData.eqv]
@[simp] theorem deq_str {a b : List Nat} : deq (.str a) (.str b) = (a == b) := by
  simp only [deq, toPy, PySem.PyData.eqv]
  exact SX.S_beq a b
@[simp] theorem deq_non : deq .non .non = true := by simp [deq, toPy, PySem.PyData.eqv]
@[simp] theorem deq_lst {a b : List D} : deq (.lst a) (.lst b) = deqs a b := by simp [deq, deqs, toPy, PySem.PyData.eqv]
@[simp] theorem deq_tup {a b : List D} : deq (.tup a) (.tup b) = deqs a b := by simp [deq, deqs, toPy, PySem.PyData.eqv]
@[simp] theorem deqs_nil : deqs [] [] = true := by simp [deqs, toPys, PySem.PyData.eqvAll]
@[simp] theorem deqs_cons {a b : List D} : deqs (x :: a) (y :: b) = (deq x y && deqs a b) := by simp [deq, deqs, toPys, PySem.PyData.eqvAll]
@[simp] theorem deqs_nil_cons {b : List D} : deqs [] (y :: b) = false := by simp [deqs, toPys, PySem.PyData.eqvAll]
@[simp] theorem deqs_cons_nil {b : List D} : deqs (y :: b) [] = false := by simp [deqs, toPys, PySem.PyData.eqvAll]
/-! operations -/
@[simp] theorem eqG_def : eqG s x y = if dep (view s x) ≤ 60 ∧ dep (view s y) ≤ 60 then .val (.bl (deq (view s x) (view s y))) s else .stuck := rfl
@[simp] theorem neG_def : neG s x y = if dep (view s x) ≤ 60 ∧ dep (view s y) ≤ 60 then .val (.bl (!deq (view s x) (view s y))) s else .stuck := rfl
@[simp] theorem subG_int {i j : Int} : subG s (.int i) (.int j) = .val (.int (i - j)) s := rfl
@[simp] theorem ltG_int {i j : Int} : ltG s (.int i) (.int j) = .val (.bl (decide (i < j))) s := rfl
@[simp] theorem leG_int {i j : Int} : leG s (.int i) (.int j) = .val (.bl (decide (i ≤ j))) s := rfl
@[simp] theorem gtG_int {i j : Int} : gtG s (.int i) (.int j) = .val (.bl (decide (j < i))) s := rfl
@[simp] theorem geG_int {i j : Int} : geG s (.int i) (.int j) = .val (.bl (decide (j ≤ i))) s := rfl
theorem modG_int {i j : Int} (h : 0 < j) : modG s (.int i) (.int j) = .val (.int (i % j)) s := if_pos (decide_eq_true h)
theorem divG_int {i j : Int} (h : 0 < j) (h2 : j < 2 ^ 64) : divG s (.int i) (.int j) = .val (.int (i / j)) s := if_pos (by simp only [Bool.and_eq_true, decide_eq_true_eq]; exact ⟨h, h2⟩)
@[simp] theorem negG_int {i : Int} : negG s (.int i) = .val (.int (-i)) s := rfl
@[simp] theorem addG_int {i j : Int} : addG s (.int i) (.int j) = .val (.int (i + j)) s := rfl
theorem addG_str {a b : List Nat} (h : a.length + b.length ≤ 16000000) : addG s (.str a) (.str b) = .val (.str (a ++ b)) s := if_pos h
theorem addG_lst {a b : List D} (h : a.length + b.length ≤ 16000000) : addG s (.lst a) (.lst b) = .val (.lst (a ++ b)) s := if_pos h
theorem addG_tup {a b : List D} (h : a.length + b.length ≤ 16000000) : addG s (.tup a) (.tup b) = .val (.tup (a ++ b)) s := if_pos h
theorem mulG_l {i j : Int} (h : big i = true) : mulG s (.int i) (.int j) = .val (.int (i * j)) s := if_pos (.inl h)
theorem mulG_r {i j : Int} (h : big j = true) : mulG s (.int i) (.int j) = .val (.int (i * j)) s := if_pos (.inr h)
@[simp] theorem isNG_non : isNG s .non .non = .val (.bl true) s := rfl
@[simp] theorem isNG_bl {a b : Bool} : isNG s (.bl a) (.bl b) = .val (.bl (a == b)) s := rfl
@[simp] theorem isntG_non : isntG s .non .non = .val (.bl false) s := rfl
@[simp] theorem isntG_bl {a b : Bool} : isntG s (.bl a) (.bl b) = .val (.bl (!(a == b))) s := rfl
@[simp] theorem intOf_bl {b : Bool} : intOf s [.bl b] = .val (.int (if b then 1 else 0)) s := rfl
@[simp] theorem lenG_lst {ds : List D} : lenG s [.lst ds] = .val (.int ds.length) s := rfl
@[simp] theorem lenG_tup {ds : List D} : lenG s [.tup ds] = .val (.int ds.length) s := rfl
theorem lenG_str {cs : List Nat} (h : cs.length ≤ 16000000) : lenG s [.str cs] = .val (.int cs.length) s := if_pos h
theorem ixG_str {cs : List Nat} {i : Int} {c : Nat} (h : cs.length ≤ 16000000) (e : L2.atI cs i = some c) : ixG s (.str cs) (.int i) = .val (.str [c]) s := by
  simp only [ixG, look_str, if_pos h, e]
@[simp] theorem ixG_wf {i : Int} : ixG s (.str [119, 102]) (.int i) = (match L2.atI [119, 102] i with
  | some c => .val (.str [c]) s
  | none => .stuck) := rfl
theorem ixG_lst {ds : List D} {i : Int} (e : L2.atI ds i = some d) : ixG s (.lst ds) (.int i) = .val d s := by simp only [ixG, look_lst, e]
theorem ixG_tup {ds : List D} {i : Int} (e : L2.atI ds i = some d) : ixG s (.tup ds) (.int i) = .val d s := by simp only [ixG, look_tup, e]
theorem ixG_ob {ds : List D} {i : Int} {k : Nat} (h : s[k]? = some (.lst ds)) (e : L2.atI ds i = some d) : ixG s (.ob k) (.int i) = .val d s := by simp only [ixG, look_ob h, e]
@[simp] theorem ixG_obD {i : Int} {k : Nat} : ixG s (.ob k) (.int i) = (match s[k]? with
  | some (.lst ds) => (match L2.atI ds i with
    | some d => .val d s
    | none => .stuck)
  | _ => .stuck) := by
  cases h : s[k]? with
  | none => simp [ixG, look, h]
  | some o =>
    cases o with
    | dead => simp [ixG, look, h]
    | ins _ _ => simp [ixG, look, h]
    | dic _ => simp [ixG, look, h]
    | lst ds =>
      simp only [ixG, look, h] <;> (cases L2.atI ds i <;> rfl)
@[simp] theorem lenG_obD {k : Nat} : lenG s [.ob k] = (match s[k]? with
  | some (.lst ds) => .val (.int ds.length) s
  | _ => .stuck) := by
  cases h : s[k]? with
  | none => simp [lenG, look, h]
  | some o => cases o <;> simp [lenG, look, h]
theorem view_obD {k : Nat} : view s (.ob k) = (match s[k]? with
  | some (.lst ds) => if flats ds = true then .lst ds else .ob k
  | _ => .ob k) := rfl
@[simp] theorem e_setI {fo fi : EF} : setI fo fi d δ s = (fo δ s).bind fun x s1 => (fi δ s1).bind fun y s2 => match x, y with
  | .ob k, .int i => match s2[k]? with
    | some (.lst ds) => match L2.ixN ds.length i with
      | some j => .val δ (s2.set k (.lst (ds.set j d)))
      | none => .stuck
    | _ => .stuck
  | _, _ => .stuck := rfl
@[simp] theorem listF_scr {ns : List Int} : listF s [.scr ns] = .val (.lst (ns.map D.int)) s := rfl
@[simp] theorem listF_lst {ns : List D} : listF s [.lst ns] = .val (.lst ns) s := rfl
@[simp] theorem listF_tup {ns : List D} : listF s [.tup ns] = .val (.lst ns) s := rfl
end
@[simp] theorem atI_0 {α : Type} {a : α} {l : List α} : L2.atI (a :: l) 0 = some a := L2.atI_nat (j := 0) rfl
@[simp] theorem atI_1 {α : Type} {a b : α} {l : List α} : L2.atI (a :: b :: l) 1 = some b := L2.atI_nat (j := 1) rfl
@[simp] theorem atI_2 {α : Type} {a b c : α} {l : List α} : L2.atI (a :: b :: c :: l) 2 = some c := L2.atI_nat (j := 2) rfl
@[simp] theorem atI_3 {α : Type} {a b c d : α} {l : List α} : L2.atI (a :: b :: c :: d :: l) 3 = some d := L2.atI_nat (j := 3) rfl
@[simp] theorem ixN_0 {n : Nat} : L2.ixN (n + 1) 0 = some 0 := by unfold L2.ixN; rw [if_pos (by omega), if_pos (by omega)]; rfl
@[simp] theorem ixN_1 {n : Nat} : L2.ixN (n + 1 + 1) 1 = some 1 := by unfold L2.ixN; rw [if_pos (by omega), if_pos (by omega)]; rfl
@[simp] theorem ixN_2 {n : Nat} : L2.ixN (n + 1 + 1 + 1) 2 = some 2 := by unfold L2.ixN; rw [if_pos (by omega), if_pos (by omega)]; rfl
section
variable {a b c e : D} {l : List D} {s : Sto}
@[simp] theorem ixG_l0 : ixG s (.lst (a :: l)) (.int 0) = .val a s := ixG_lst atI_0
@[simp] theorem ixG_l1 : ixG s (.lst (a :: b :: l)) (.int 1) = .val b s := ixG_lst atI_1
@[simp] theorem ixG_l2 : ixG s (.lst (a :: b :: c :: l)) (.int 2) = .val c s := ixG_lst atI_2
@[simp] theorem ixG_l3 : ixG s (.lst (a :: b :: c :: e :: l)) (.int 3) = .val e s := ixG_lst atI_3
@[simp] theorem ixG_t0 : ixG s (.tup (a :: l)) (.int 0) = .val a s := ixG_tup atI_0
@[simp] theorem ixG_t1 : ixG s (.tup (a :: b :: l)) (.int 1) = .val b s := ixG_tup atI_1
@[simp] theorem ixG_t2 : ixG s (.tup (a :: b :: c :: l)) (.int 2) = .val c s := ixG_tup atI_2
@[simp] theorem ixG_t3 : ixG s (.tup (a :: b :: c :: e :: l)) (.int 3) = .val e s := ixG_tup atI_3
end
end Fl
set_option Elab.async false
set_option linter.all false
set_option maxRecDepth 100000
namespace Fl
open PySem PySem.Spec PyProof.Rows L2
/-! ### what is walked in pairs: lists, tuples, texts -/
inductive Kd where
  | li (a : Addr) | tu (a : Addr) | tx (x : Str) (k : Tok)
def Kd.at (k : Kd) (i : Addr) (n : Nat) (h : Heap) : Prop := match k with
  | .li a => h.IsListIter i a n
  | .tu a => h.IsTupleIter i a n
  | .tx x t => h.IsStrIter i (strIterType x) x t n
def Kd.src (k : Kd) (K : PySem.W.Frag) (H : Hp) (xs : List V) : Prop := match k with
  | .li a => SqL K H a xs
  | .tu a => SqT K H a xs
  | .tx x _ => xs = x.cps.toList.map fun c => V.str ⟨#[c]⟩
def Kd.ads : Kd → List Addr
  | .li a => [a]
  | .tu a => [a]
  | .tx _ _ => []
def Kd.val : Kd → Value
  | .li a => .ref a
  | .tu a => .ref a
  | .tx x t => .str x t
theorem Kd.keep {k : Kd} {i : Addr} {n : Nat} {h h' : Heap} (q : k.at i n h) (e : ∀ o, h.get? i = some o → h'.get? i = some o) : k.at i n h' := by
  cases k with
  | li a => obtain ⟨o, h1, r⟩ := q; exact ⟨o, e o h1, r⟩
  | tu a => obtain ⟨o, h1, r⟩ := q; exact ⟨o, e o h1, r⟩
  | tx x t => obtain ⟨o, h1, r⟩ := q; exact ⟨o, e o h1, r⟩
theorem Kd.ob {k : Kd} {i : Addr} {n : Nat} {h : Heap} (q : k.at i n h) : ∃ o, h.get? i = some o ∧ ∀ v, o.data ≠ .cell v := by
  cases k with
  | li a => obtain ⟨o, h1, _, r⟩ := q; exact ⟨o, h1, fun v z => by rw [r] at z; cases z⟩
  | tu a => obtain ⟨o, h1, _, r⟩ := q; exact ⟨o, h1, fun v z => by rw [r] at z; cases z⟩
  | tx x t => obtain ⟨o, h1, _, r⟩ := q; exact ⟨o, h1, fun v z => by rw [r] at z; cases z⟩
theorem vals_at {xs : List V} {us : List Value} {m : Nat} {v : Value} (r : Vals xs us) (h : us[m]? = some v) : ∃ x, xs[m]? = some x ∧ RelV x v := by
  have hm : m < xs.length := by rw [r.length]; exact (List.getElem?_eq_some_iff.mp h).1
  obtain ⟨u, h1, h2⟩ := r.get (List.getElem?_eq_getElem hm)
  rw [h] at h1; cases h1
  exact ⟨_, List.getElem?_eq_getElem hm, h2⟩
theorem Kd.draws {X : Cx} {pins : List (Addr × Obj)} {σ : L2.St} {H : Hp} {s : Shared} {A : Around} {k : Kd} {i : Addr} {n : Nat} {xs : List V} (I : Inv X pins σ H s) (h : k.src X.K H xs) (hk : k.at i n s.heap) (hne : ∀ a ∈ k.ads, a ≠ i) (hh : A.handled = none) :
    ∃ (P : Nat → Value → Prop) (T : Nat → Heap → Prop), Draws X.prog X.w A i (i :: k.ads) xs.length P T ∧ T n s.heap ∧ (∀ m h, T m h → k.at i m h) ∧ ∀ m v, P m v → ∃ x, xs[m]? = some x ∧ RelV x v := by
  cases k with
  | li a =>
    obtain ⟨its, rv, p, _⟩ := I.list h
    have hl := rv.length
    have D := Draws.list (prog := X.prog) (w := X.w) hh i a (hne a (by simp [Kd.ads])) its.toArray
    rw [List.size_toArray, ← hl] at D
    refine ⟨_, _, D, ⟨hk, p.isList⟩, fun _ _ q => q.1, fun m v q => ?_⟩
    exact vals_at rv (by simpa using q)
  | tu a =>
    obtain ⟨its, rv, p, _⟩ := I.tuple h
    have hl := rv.length
    have D := Draws.tuple (prog := X.prog) (w := X.w) hh i a (hne a (by simp [Kd.ads])) its.toArray
    rw [List.size_toArray, ← hl] at D
    refine ⟨_, _, D, ⟨hk, p⟩, fun _ _ q => q.1, fun m v q => ?_⟩
    exact vals_at rv (by simpa using q)
  | tx x t =>
    have h' : xs = x.cps.toList.map fun c => V.str ⟨#[c]⟩ := h
    subst h'
    have D := Draws.text (prog := X.prog) (w := X.w) hh i x t
    have e : (x.cps.toList.map fun c => V.str ⟨#[c]⟩).length = x.cps.size := by simp
    rw [e]
    refine ⟨_, _, D, hk, fun _ _ q => q, fun m v q => ?_⟩
    obtain ⟨c, u, h1, rfl⟩ := q
    refine ⟨V.str ⟨#[c]⟩, by rw [List.getElem?_map, Array.getElem?_toList, h1]; rfl, ?_⟩
    exact ⟨u, rfl⟩
/-- the sources at each turn, the items in new pairs -/
def ItZ (K : PySem.W.Frag) (k1 k2 : Kd) (xs ys : List V) : It :=
  ⟨fun i H => k1.src K H xs ∧ k2.src K H ys ∧ i < xs.length ∧ i < ys.length, fun i H v H' => ∃ T x y, v = .ref T ∧ H T = none ∧ H' = upd H T (.tup [x, y]) ∧ xs[i]? = some x ∧ ys[i]? = some y,
    fun i H => k1.src K H xs ∧ k2.src K H ys ∧ i = min xs.length ys.length⟩
theorem turn_zipK {P : Program} {w : World} {K : PySem.W.Frag} {elts : List Expr} {kk : Nat} {tpos : Pos} {k1 k2 : Kd} {xs ys : List V} {z TI TO i1 i2 : Addr} (D : ZipSep2 z TI TO i1 i2 (i1 :: k1.ads) (i2 :: k2.ads)) (n1 : ∀ a ∈ k1.ads, a ≠ i1) (n2 : ∀ a ∈ k2.ads, a ≠ i2) :
    Turn P w K (.Tuple elts kk tpos) (ItZ K k1 k2 xs ys) [z, TI, TO, i1, i2] z (fun i h => IsZip h z TI TO .none ∧ IsTupOf2 h TI (.ref i1) (.ref i2) ∧ (∃ x y, IsTupOf2 h TO x y) ∧ k1.at i1 i h ∧ k2.at i2 i h) where
  mem := by simp
  obj := fun i h st c hc => by
    obtain ⟨hz, hTI, ⟨x, y, hTO⟩, h1, h2⟩ := st
    have e' : c = z ∨ c = TI ∨ c = TO ∨ c = i1 ∨ c = i2 := by simpa using hc
    rcases e' with q | q | q | q | q
    · rw [q]; exact ⟨_, hz, fun v q => nomatch q⟩
    · rw [q]; exact ⟨_, hTI, fun v q => nomatch q⟩
    · rw [q]; exact ⟨_, hTO, fun v q => nomatch q⟩
    · rw [q]; exact Kd.ob h1
    · rw [q]; exact Kd.ob h2
  keep := fun i h h' st k => by
    obtain ⟨hz, hTI, ⟨x, y, hTO⟩, h1, h2⟩ := st
    exact ⟨k z (by simp) _ hz, k TI (by simp) _ hTI, ⟨x, y, k TO (by simp) _ hTO⟩, Kd.keep h1 fun o q => k i1 (by simp) o q, Kd.keep h2 fun o q => k i2 (by simp) o q⟩
  item := by
    intro X hP hw hK hc i pins s σ H E I hf st hg
    subst hP hw hK
    obtain ⟨hz, hTI, hTO, h1, h2⟩ := st
    obtain ⟨q1, q2, l1, l2⟩ := hg
    have hh : X.A.in1.handled = none := by simp [I.ok.hd hc]
    obtain ⟨P1, T1, D1, t1, a1, b1⟩ := Kd.draws (A := X.A.in1) I q1 h1 n1 hh
    obtain ⟨P2, T2, D2, t2, a2, b2⟩ := Kd.draws (A := X.A.in1) I q2 h2 n2 hh
    have W := GoesN.zip2 (elts := elts) (x1 := kk) (pos := tpos) D D1 D2
    refine W.goes i s (fun u s2 => ∃ x H', Inv X pins σ H' s2 ∧ RelV x u ∧ (ItZ X.K k1 k2 xs ys).yld i H x H' ∧ (IsZip s2.heap z TI TO .none ∧ IsTupOf2 s2.heap TI (.ref i1) (.ref i2) ∧ (∃ x y, IsTupOf2 s2.heap TO x y) ∧ k1.at i1 (i + 1) s2.heap ∧ k2.at i2 (i + 1) s2.heap) ∧ ∀ b ∈ [z, TI, TO, i1, i2], H' b = none) E (by omega) ⟨hz, hTI, hTO, t1, t2⟩ fun v h' tk hY st' hk _ => ?_
    obtain ⟨T, x, y, rfl, hT, p1, p2, hTup⟩ := hY
    obtain ⟨x', e1, r1⟩ := b1 _ _ p1
    obtain ⟨y', e2, r2⟩ := b2 _ _ p2
    have new : ObjOk X.prog X.w (upd H T (.tup [x', y'])) h' T (.tup [x', y']) :=
      ⟨by show 2 ≤ sizeLine; decide, [x, y], .cons r1 (.cons r2 .nil), by obtain ⟨o, h1, h2, n, h3⟩ := hTup; exact ⟨o, h1, h2, n, h3⟩⟩
    have I1 : Inv X pins σ (upd H T (.tup [x', y'])) { s with heap := h', toks := tk } :=
      I.turnedNew (ch := [z, TI, TO, i1, i2]) (fun c o hb q => hk c o (fun q' => hb (by simp at q' ⊢; rcases q' with q | q | q | q <;> simp [q])) q) hf hT new
    refine ⟨.ref T, _, I1, rfl, ⟨T, x', y', rfl, I.hok.fresh hT, rfl, e1, e2⟩, ⟨st'.1, st'.2.1, st'.2.2.1, a1 _ _ st'.2.2.2.1, a2 _ _ st'.2.2.2.2⟩, fun c hcm => ?_⟩
    have hlt : c < s.heap.objs.size := by
      have e' : c = z ∨ c = TI ∨ c = TO ∨ c = i1 ∨ c = i2 := by simpa using hcm
      obtain ⟨u1, u2, hTO⟩ := hTO
      rcases e' with q | q | q | q | q
      · rw [q]; exact Heap.lt_size hz
      · rw [q]; exact Heap.lt_size hTI
      · rw [q]; exact Heap.lt_size hTO
      · rw [q]; obtain ⟨_, e, _⟩ := Kd.ob h1; exact Heap.lt_size e
      · rw [q]; obtain ⟨_, e, _⟩ := Kd.ob h2; exact Heap.lt_size e
    rw [upd_ne (Nat.ne_of_lt (Nat.lt_of_lt_of_le hlt hT))]
    exact (hf c hcm).1
  done := by
    intro X hP hw hK hc i pins s σ H E I hf st hg
    subst hP hw hK
    obtain ⟨hz, hTI, hTO, h1, h2⟩ := st
    obtain ⟨q1, q2, l⟩ := hg
    subst l
    have hh : X.A.in1.handled = none := by simp [I.ok.hd hc]
    obtain ⟨P1, T1, D1, t1, a1, b1⟩ := Kd.draws (A := X.A.in1) I q1 h1 n1 hh
    obtain ⟨P2, T2, D2, t2, a2, b2⟩ := Kd.draws (A := X.A.in1) I q2 h2 n2 hh
    have W := GoesN.zip2 (elts := elts) (x1 := kk) (pos := tpos) D D1 D2
    exact W.stops s (fun s2 => Inv X pins σ H s2) E ⟨hz, hTI, hTO, t1, t2⟩ fun h' tk hk _ => I.turnedL (ch := [z, TI, TO, i1, i2]) (fun c o hb q => hk c o (fun q' => hb (by simp at q' ⊢; rcases q' with q | q | q | q <;> simp [q])) q) hf
  self := fun A i s Q E st h => wpAny_pyIter_zip st.1 h
inductive Cd where
  | li (a : Addr) | tu (a : Addr) | tx (x : Str)
def Cd.kd : Cd → Tok → Kd
  | .li a, _ => .li a
  | .tu a, _ => .tu a
  | .tx x, t => .tx x t
def Cd.v : Cd → V
  | .li a => .ref a
  | .tu a => .ref a
  | .tx x => .str x
theorem Cd.begins {X : Cx} {pins : List (Addr × Obj)} {σ : L2.St} {H : Hp} {s : Shared} {c : Cd} {u : Value} {xs : List V} (I : Inv X pins σ H s) (r : RelV c.v u) (h : ∀ t, (c.kd t).src X.K H xs) :
    ∃ (t : Tok) (o : Obj) (B : Heap → Prop), u = (c.kd t).val ∧ Begins u o B ∧ B s.heap ∧ (∀ (i : Addr) (h' : Heap), h'.get? i = some o → (c.kd t).at i 0 h') ∧ ∀ a ∈ (c.kd t).ads, a < s.heap.objs.size := by
  cases c with
  | li a =>
    have e : u = .ref a := r
    subst e
    obtain ⟨its, rv, p, _⟩ := I.list (h 0)
    exact ⟨0, _, _, rfl, begins_list a its.toArray, p.isList, fun i h' g => ⟨_, g, rfl, rfl⟩, fun b hb => by rw [show b = a by simpa [Kd.ads, Cd.kd] using hb]; exact p.lt⟩
  | tu a =>
    have e : u = .ref a := r
    subst e
    obtain ⟨its, rv, p, _⟩ := I.tuple (h 0)
    obtain ⟨o, ho, _⟩ := id p
    exact ⟨0, _, _, rfl, begins_tuple a its.toArray, p, fun i h' g => ⟨_, g, rfl, rfl⟩, fun b hb => by rw [show b = a by simpa [Kd.ads, Cd.kd] using hb]; exact Heap.lt_size ho⟩
  | tx x =>
    obtain ⟨t, rfl⟩ : ∃ t, u = .str x t := r
    exact ⟨t, _, _, rfl, begins_text x t, trivial, fun i h' g => ⟨_, g, rfl, rfl⟩, fun b hb => by simp [Kd.ads, Cd.kd] at hb⟩
def iZipK (K : PySem.W.Frag) (ta : TA) : TI := fun σ H R => ta σ H fun vs H1 => ∃ (c1 c2 : Cd) (xs ys : List V), vs = [c1.v, c2.v] ∧ (∀ t, (c1.kd t).src K H1 xs) ∧ (∀ t, (c2.kd t).src K H1 ys) ∧ ∀ t1 t2, R (ItZ K (c1.kd t1) (c2.kd t2) xs ys) H1
theorem pi_zipK {X : Cx} {e e2 : Expr} {ta : TA} {p pos tpos : Pos} {elts : List Expr} {kk : Nat} (hg : Gl X "zip") (hm : X.mg "zip" = none) (ha : PA X [e, e2] ta)
    (hs : starEach [e, e2] X.env = (false, eval e X.env) :: starEach [e2] X.env := by rfl) (hpl : (backTo pos (starEach [e2] X.env)).any (·.1) = false := by rfl) :
    PI X (.Tuple elts kk tpos) (.Call (.Name "zip" p) [e, e2] [] pos) (iZipK X.K ta) := by
  refine ⟨fun pins s σ H R I h => ?_⟩
  refine Call_ (ld_blt I hg hm PyProof.Rows.boot_zip (PyProof.Rows.callWith_type1 (thn (ha.run pos pins s σ H _ I h) fun us s1 ⟨vs, H1, I1, r1, q1⟩ => ?_) hs hpl))
  obtain ⟨c1, c2, xs, ys, ex, k1, k2, q⟩ := q1
  subst ex
  cases r1 with
  | cons r rr =>
    cases rr with
    | cons r' rr =>
      cases rr
      obtain ⟨t1, o1, B1, _, b1, p1, a1, l1⟩ := Cd.begins I1 r k1
      obtain ⟨t2, o2, B2, _, b2, p2, a2, l2⟩ := Cd.begins I1 r' k2
      refine zip_begins2 b1 b2 p1 p2 fun h' hz hTI hTO g1 g2 hsz hk => wpAny_pyIter_zip hz ?_
      have I2 : Inv X pins σ H1 { s1 with heap := h' } := I1.kept (t' := s1.toks) hk
      have fresh5 : ∀ c, c ∈ [s1.heap.objs.size + 4, s1.heap.objs.size + 2, s1.heap.objs.size + 3, s1.heap.objs.size, s1.heap.objs.size + 1] → FpOk X pins H1 c := fun c hcm => by
        have e' : c = s1.heap.objs.size + 4 ∨ c = s1.heap.objs.size + 2 ∨ c = s1.heap.objs.size + 3 ∨ c = s1.heap.objs.size ∨ c = s1.heap.objs.size + 1 := by simpa using hcm
        have hle : s1.heap.objs.size ≤ c := by
          rcases e' with z | z | z | z | z
          · rw [z]; exact Nat.le_add_right _ _
          · rw [z]; exact Nat.le_add_right _ _
          · rw [z]; exact Nat.le_add_right _ _
          · rw [z]; exact Nat.le_refl _
          · rw [z]; exact Nat.le_add_right _ _
        exact I1.fpOk hle (I1.hok.fresh hle)
      refine ⟨s1.heap.objs.size + 4, [s1.heap.objs.size + 4, s1.heap.objs.size + 2, s1.heap.objs.size + 3, s1.heap.objs.size, s1.heap.objs.size + 1], _, _, H1, rfl, I2, turn_zipK (zip_sep2 l1 l2) (fun a ha => Nat.ne_of_lt (l1 a ha)) (fun a ha => Nat.ne_of_lt (Nat.lt_succ_of_lt (l2 a ha))), ⟨hz, hTI, ⟨_, _, hTO⟩, a1 _ _ g1, a2 _ _ g2⟩, fresh5, q t1 t2⟩
/-! ### enumerate -/
theorem meets_enum1 {v : Value} {o : Obj} {H : Heap → Prop} (B : Begins v o H) :
    Meets (Builtin.«enumerate.__new__» ⟨[.type "enumerate", v], []⟩) (fun _ R s => H s.heap ∧
      R (.ok (.ret (.ref (s.heap.push o).objs.size))) { s with heap := (s.heap.push o).push { cls := .type "enumerate", data := .fields #[.none, .bool false, .ref s.heap.objs.size, rawInt 0, .none, .none] } }) :=
  .of_wp fun prog w A R s h => by
    obtain ⟨hp, g, d, tk, os⟩ := s; obtain ⟨h1, h⟩ := h
    have hsub := sub_enumerate
    have q1 : ∀ {A' : Around} {E : Value → Shared → Prop} {Q : Value → Shared → Prop}, Q (.ref hp.objs.size) ⟨hp.push o, g, d, tk, os⟩ → wpAny (model prog w) A' (pyIter v) Q E ⟨hp, g, d, tk, os⟩ :=
      fun q => B.iter prog w _ _ ⟨hp, g, d, tk, os⟩ _ h1 q
    wp_walk using q1
    refine wpAny_stack_any fun st => wpAny_pure ?_
    split
    · rename_i c _ _ _ _ _
      cases (c == Value.type "enumerate")
      · wp_walk using q1
        exact ⟨_, rfl, h⟩
      · wp_walk using q1
        exact ⟨_, rfl, h⟩
    · wp_walk using q1
      exact ⟨_, rfl, h⟩
theorem enum_begins1 {prog : Program} {w : World} {A : Around} {E : Value → Shared → Prop} {s : Shared} {v : Value} {o : Obj} {H : Heap → Prop} {Q : Value → Shared → Prop} (B : Begins v o H) (h1 : H s.heap)
    (h : ∀ h', IsEnum h' (s.heap.objs.size + 1) s.heap.objs.size 0 .none → h'.get? s.heap.objs.size = some o → h'.objs.size = s.heap.objs.size + 2 →
      (∀ b o, s.heap.get? b = some o → h'.get? b = some o) → Q (.ref (s.heap.objs.size + 1)) { s with heap := h' }) :
    wpAny (model prog w) A (call (.type "enumerate") [v]) Q E s := by
  refine callType_new F.called_enumerate (by decide) (F.typeCall_enumerate_1 _) (F.newCall_enumerate_1 _) (fun obj => F.args_object_init_2 obj _) F.entry_enumerate_new
    (meets_enum1 B) ⟨h1, ?_⟩
  have hz : (s.heap.push o).objs.size = s.heap.objs.size + 1 := Heap.size_push ..
  show _ ∧ _
  rw [hz]
  have he : IsEnum ((s.heap.push o).push { cls := .type "enumerate", data := .fields #[.none, .bool false, .ref s.heap.objs.size, rawInt 0, .none, .none] }) (s.heap.objs.size + 1) s.heap.objs.size 0 .none := by
    have := Heap.get?_push_size (s.heap.push o) (o := { cls := .type "enumerate", data := .fields #[.none, .bool false, .ref s.heap.objs.size, rawInt 0, .none, .none] }) rfl
    rw [hz] at this; exact this
  refine ⟨⟨_, he, rfl⟩, h _ he (Heap.get?_push_of_some _ (Heap.get?_push_size _ B.free)) (by rw [Heap.size_push, hz]) fun b o x => Heap.get?_push_of_some _ (Heap.get?_push_of_some _ x)⟩
def ItE (K : PySem.W.Frag) (k : Kd) (xs : List V) : It :=
  ⟨fun i H => k.src K H xs ∧ i < xs.length, fun i H v H' => ∃ T x, v = .ref T ∧ H T = none ∧ H' = upd H T (.tup [.int (i : Nat), x]) ∧ xs[i]? = some x, fun i H => k.src K H xs ∧ i = xs.length⟩
theorem turn_enumK {P : Program} {w : World} {K : PySem.W.Frag} {elts : List Expr} {kk : Nat} {tpos : Pos} {k : Kd} {xs : List V} {e it : Addr} (hei : e ≠ it) (hef : e ∉ it :: k.ads) (n1 : ∀ a ∈ k.ads, a ≠ it) :
    Turn P w K (.Tuple elts kk tpos) (ItE K k xs) [e, it] e (fun i h => (∃ old, IsEnum h e it (0 + (i : Int)) old) ∧ k.at it i h) where
  mem := by simp
  obj := fun i h st b hb => by
    obtain ⟨⟨old, he⟩, h1⟩ := st
    have e' : b = e ∨ b = it := by simpa using hb
    rcases e' with z | z
    · rw [z]; exact ⟨_, he, fun v q => nomatch q⟩
    · rw [z]; exact Kd.ob h1
  keep := fun i h h' st k => let ⟨⟨old, he⟩, hi⟩ := st; ⟨⟨old, k e (by simp) _ he⟩, Kd.keep hi fun o q => k it (by simp) o q⟩
  item := by
    intro X hP hw hK hc i pins s σ H E I hf st hg
    subst hP hw hK
    obtain ⟨he, h1⟩ := st
    obtain ⟨q1, l1⟩ := hg
    have hh : X.A.in1.handled = none := by simp [I.ok.hd hc]
    obtain ⟨P1, T1, D1, t1, a1, b1⟩ := Kd.draws (A := X.A.in1) I q1 h1 n1 hh
    have W := GoesN.enumFrom (elts := elts) (x1 := kk) (pos := tpos) 0 D1 e hei hef (by simp)
    refine W.goes i s (fun u s2 => ∃ x H', Inv X pins σ H' s2 ∧ RelV x u ∧ (ItE X.K k xs).yld i H x H' ∧ ((∃ old, IsEnum s2.heap e it (0 + ((i + 1 : Nat) : Int)) old) ∧ k.at it (i + 1) s2.heap) ∧ ∀ b ∈ [e, it], H' b = none) E l1 ⟨he, t1⟩ fun v h' tk hY st' hk _ => ?_
    obtain ⟨T, t, x, rfl, hT, p1, hTup⟩ := hY
    obtain ⟨x', e1, r1⟩ := b1 _ _ p1
    have new : ObjOk X.prog X.w (upd H T (.tup [.int (i : Nat), x'])) h' T (.tup [.int (i : Nat), x']) :=
      ⟨by show 2 ≤ sizeLine; decide, [.int (0 + (i : Int)) t, x], .cons ⟨t, by simp⟩ (.cons r1 .nil), by obtain ⟨o, h1, h2, n, h3⟩ := hTup; exact ⟨o, h1, h2, n, h3⟩⟩
    have I1 : Inv X pins σ (upd H T (.tup [.int (i : Nat), x'])) { s with heap := h', toks := tk } := I.turnedNew (ch := [e, it]) (fun c o hb q => hk c o hb q) hf hT new
    refine ⟨.ref T, _, I1, rfl, ⟨T, x', rfl, I.hok.fresh hT, rfl, e1⟩, ⟨st'.1, a1 _ _ st'.2⟩, fun c hcm => ?_⟩
    have hlt : c < s.heap.objs.size := by
      have e' : c = e ∨ c = it := by simpa using hcm
      obtain ⟨old, he⟩ := he
      rcases e' with q | q
      · rw [q]; exact Heap.lt_size he
      · rw [q]; obtain ⟨_, z, _⟩ := Kd.ob h1; exact Heap.lt_size z
    rw [upd_ne (Nat.ne_of_lt (Nat.lt_of_lt_of_le hlt hT))]
    exact (hf c hcm).1
  done := by
    intro X hP hw hK hc i pins s σ H E I hf st hg
    subst hP hw hK
    obtain ⟨he, h1⟩ := st
    obtain ⟨q1, l⟩ := hg
    subst l
    have hh : X.A.in1.handled = none := by simp [I.ok.hd hc]
    obtain ⟨P1, T1, D1, t1, a1, b1⟩ := Kd.draws (A := X.A.in1) I q1 h1 n1 hh
    have W := GoesN.enumFrom (elts := elts) (x1 := kk) (pos := tpos) 0 D1 e hei hef (by simp)
    exact W.stops s (fun s2 => Inv X pins σ H s2) E ⟨he, t1⟩ fun h' tk hk _ => I.turnedL (ch := [e, it]) (fun c o hb q => hk c o hb q) hf
  self := fun A i s Q E st h => let ⟨⟨_, he⟩, _⟩ := st; wpAny_pyIter_enum he h
def iEnumK (K : PySem.W.Frag) (ta : TA) : TI := fun σ H R => ta σ H fun vs H1 => ∃ (c : Cd) (xs : List V), vs = [c.v] ∧ (∀ t, (c.kd t).src K H1 xs) ∧ ∀ t, R (ItE K (c.kd t) xs) H1
theorem pi_enumK {X : Cx} {e : Expr} {ta : TA} {p pos tpos : Pos} {elts : List Expr} {kk : Nat} (hg : Gl X "enumerate") (hm : X.mg "enumerate" = none) (ha : PA X [e] ta) (hs : starEach [e] X.env = [(false, eval e X.env)] := by rfl) :
    PI X (.Tuple elts kk tpos) (.Call (.Name "enumerate" p) [e] [] pos) (iEnumK X.K ta) := by
  refine ⟨fun pins s σ H R I h => ?_⟩
  refine Call_ (ld_blt I hg hm boot_enumerate (PyProof.Rows.callWith_type1 (thn (ha.run pos pins s σ H _ I h) fun us s1 ⟨vs, H1, I1, r1, q1⟩ => ?_) hs rfl))
  obtain ⟨c, xs, ex, k1, q⟩ := q1
  subst ex
  cases r1 with
  | cons r rr =>
    cases rr
    obtain ⟨t1, o1, B1, _, b1, p1, a1, l1⟩ := Cd.begins I1 r k1
    refine enum_begins1 b1 p1 fun h' he g1 hsz hk => wpAny_pyIter_enum he ?_
    have I2 : Inv X pins σ H1 { s1 with heap := h' } := I1.kept (t' := s1.toks) hk
    refine ⟨s1.heap.objs.size + 1, [s1.heap.objs.size + 1, s1.heap.objs.size], _, _, H1, rfl, I2, turn_enumK (Nat.succ_ne_self _) (fun hm => ?_) (fun a ha => Nat.ne_of_lt (l1 a ha)), ⟨⟨.none, he⟩, a1 _ _ g1⟩, fun b hb => ?_, q t1⟩
    · rcases List.mem_cons.mp hm with z | z
      · exact Nat.succ_ne_self _ z
      · have : (s1.heap.objs.size + 1 : Nat) < s1.heap.objs.size := l1 _ z
        omega
    · have e' : b = s1.heap.objs.size + 1 ∨ b = s1.heap.objs.size := by simpa using hb
      have hle : s1.heap.objs.size ≤ b := by
        rcases e' with z | z
        · rw [z]; exact Nat.le_add_right _ _
        · rw [z]; exact Nat.le_refl _
      exact I1.fpOk hle (I1.hok.fresh hle)
/-! ### .. as data -/
def srcD : D → Option (List D)
  | .lst ds => some ds
  | .tup ds => some ds
  | .str cs => some (cs.map fun c => .str [c])
  | _ => none
theorem src_ok {K : PySem.W.Frag} {M : Hp} {ι : List Addr} {x : D} {v : V} {ds : List D} (r : Rep K M ι x v) (h : srcD x = some ds) : ∃ (c : Cd) (xs : List V), v = c.v ∧ RepL K M ds xs ∧ ∀ H, Ex M H → ∀ t, (c.kd t).src K H xs := by
  cases x with
  | lst ds' =>
    cases h
    obtain ⟨a, vs, rfl, h1, h2⟩ := r.lst
    exact ⟨.li a, vs, rfl, h2, fun H e t => SqL.of (e _ _ h1)⟩
  | tup ds' =>
    cases h
    obtain ⟨a, vs, rfl, h1, h2⟩ := r.tup
    exact ⟨.tu a, vs, rfl, h2, fun H e t => Ex.t e h1.sq⟩
  | str cs =>
    cases h
    obtain ⟨rfl, o⟩ := r.str
    refine ⟨.tx ⟨cs.toArray⟩, cs.map fun c => V.str ⟨#[c]⟩, rfl, ?_, fun H e t => by show _ = _; simp⟩
    clear r
    induction cs with
    | nil => exact .nil
    | cons c cs ih =>
      refine .cons (by unfold RepF; exact ⟨rfl, okS_mem o (by simp)⟩) (ih ?_)
      unfold okS at o ⊢
      rw [List.all_cons, Bool.and_eq_true] at o
      exact o.2
  | _ => cases h
def pairs (xs ys : List D) : List D := List.zipWith (fun a b => .tup [a, b]) xs ys
theorem RepL.flatAt {K : PySem.W.Frag} {M : Hp} {ι : List Addr} {d : D} {v : V} (h : RepF K M d v) : Rep K M ι d v := Rep.of h
theorem itOk_zip {K : PySem.W.Frag} {M : Hp} {c1 c2 : Cd} {t1 t2 : Tok} {xs ys : List V} {ds es : List D} (r1 : RepL K M ds xs) (r2 : RepL K M es ys) (s1 : ∀ H, Ex M H → ∀ t, (c1.kd t).src K H xs) (s2 : ∀ H, Ex M H → ∀ t, (c2.kd t).src K H ys) : ItOk K M (ItZ K (c1.kd t1) (c2.kd t2) xs ys) (pairs ds es) := by
  intro i M1 ι1 s H1 e C
  have e1 : Ex M H1 := Ex.trans e C.sub
  have hl : (pairs ds es).length = min xs.length ys.length := by rw [r1.length, r2.length]; simp [pairs]
  constructor
  · intro d hd
    have hi : i < min xs.length ys.length := by rw [← hl]; exact (List.getElem?_eq_some_iff.mp hd).1
    refine ⟨⟨s1 _ e1 _, s2 _ e1 _, by omega, by omega⟩, fun v' H2 y => ?_⟩
    obtain ⟨T, x, y, rfl, hT, rfl, hx, hy⟩ := y
    obtain ⟨dx, h1, h2⟩ := r1.getV hx
    obtain ⟨dy, h3, h4⟩ := r2.getV hy
    have hd' : d = .tup [dx, dy] := by
      unfold pairs at hd
      rw [List.getElem?_zipWith, h1, h3] at hd
      exact (Option.some.inj hd).symm
    subst hd'
    obtain ⟨C2, t2⟩ := C.laid (o := .tup [x, y]) hT
    exact ⟨_, t2, C2, Rep.of (by unfold RepF; exact ⟨T, _, rfl, .inl upd_same, .cons ((h2.mono e).mono t2.mm) (.cons ((h4.mono e).mono t2.mm) .nil)⟩)⟩
  · intro hi
    exact ⟨s1 _ e1 _, s2 _ e1 _, by rw [hi, hl]⟩
def numbered : Nat → List D → List D
  | _, [] => []
  | n, d :: ds => .tup [.int (n : Int), d] :: numbered (n + 1) ds
theorem numbered_len : ∀ (n : Nat) (ds : List D), (numbered n ds).length = ds.length
  | _, [] => rfl
  | n, d :: ds => by simp [numbered, numbered_len (n + 1) ds]
theorem numbered_get : ∀ (n : Nat) (ds : List D) (i : Nat), (numbered n ds)[i]? = ds[i]?.map fun d => .tup [.int ((n + i : Nat) : Int), d]
  | _, [], i => by simp [numbered]
  | n, d :: ds, 0 => by simp [numbered]
  | n, d :: ds, i + 1 => by
    have := numbered_get (n + 1) ds i
    simp only [numbered, List.getElem?_cons_succ, this]
    congr 1; funext x; rw [show n + 1 + i = n + (i + 1) by omega]
theorem itOk_enum {K : PySem.W.Frag} {M : Hp} {c1 : Cd} {t1 : Tok} {xs : List V} {ds : List D} (r1 : RepL K M ds xs) (s1 : ∀ H, Ex M H → ∀ t, (c1.kd t).src K H xs) : ItOk K M (ItE K (c1.kd t1) xs) (numbered 0 ds) := by
  intro i M1 ι1 s H1 e C
  have e1 : Ex M H1 := Ex.trans e C.sub
  have hl : (numbered 0 ds).length = xs.length := by rw [r1.length, numbered_len]
  constructor
  · intro d hd
    have hi : i < xs.length := by rw [← hl]; exact (List.getElem?_eq_some_iff.mp hd).1
    refine ⟨⟨s1 _ e1 _, hi⟩, fun v' H2 y => ?_⟩
    obtain ⟨T, x, rfl, hT, rfl, hx⟩ := y
    obtain ⟨dx, h1, h2⟩ := r1.getV hx
    have hd' : d = .tup [.int (i : Nat), dx] := by
      rw [numbered_get, h1] at hd
      rw [← Option.some.inj hd]; simp
    subst hd'
    obtain ⟨C2, t2⟩ := C.laid (o := .tup [.int (i : Nat), x]) hT
    exact ⟨_, t2, C2, Rep.of (by unfold RepF; exact ⟨T, _, rfl, .inl upd_same, .cons (by unfold RepF; rfl) (.cons ((h2.mono e).mono t2.mm) .nil)⟩)⟩
  · intro hi
    exact ⟨s1 _ e1 _, by rw [hi, hl]⟩
def zipF (fr : AF) : AF := fun δ s => (fr δ s).bind fun ds s1 => match ds with
  | [x, y] => match srcD x, srcD y with
    | some xs, some ys => .val (pairs xs ys) s1
    | _, _ => .stuck
  | _ => .stuck
def enumF (fr : AF) : AF := fun δ s => (fr δ s).bind fun ds s1 => match ds with
  | [x] => match srcD x with
    | some xs => .val (numbered 0 xs) s1
    | none => .stuck
  | _ => .stuck
section
variable {X : Cx} {cl : Nat → Value} {W : WX} {e a b : Expr} {fr : AF} {pos : Pos}
theorem ji_zip {p tpos : Pos} {elts : List Expr} {kk : Nat} (hg : Gl X "zip") (hm : X.mg "zip" = none) (ha : JA X cl W [a, b] fr) (hs : starEach [a, b] X.env = (false, eval a X.env) :: starEach [b] X.env := by rfl) (hpl : (backTo pos (starEach [b] X.env)).any (·.1) = false := by rfl) :
    JI X cl W (.Tuple elts kk tpos) (.Call (.Name "zip" p) [a, b] [] pos) (zipF fr) := (pi_zipK hg hm ha hs hpl).imp fun σ H R h => by
  obtain ⟨M, ι, δ, s, C, S, P⟩ := h
  refine ⟨M, ι, δ, s, C, S, Post.mono (Post.bind (Reps X.K) P) fun u H1 m => ?_⟩
  obtain ⟨M1, ι1, x, s1, t1, C1, r1, P1⟩ := m.ex
  split at P1
  · split at P1
    · rename_i h1 h2
      obtain ⟨u, w, rfl, r2, r3⟩ := r1.two
      obtain ⟨c1, vs, rfl, q1, z1⟩ := src_ok r2 h1
      obtain ⟨c2, us, rfl, q2, z2⟩ := src_ok r3 h2
      exact ⟨c1, c2, vs, us, rfl, z1 _ C1.sub, z2 _ C1.sub, fun t1 t2 => Post.now (C := CI X.K) P1 C1 (itOk_zip q1 q2 z1 z2)⟩
    · exact P1.elim
  · exact P1.elim
theorem ji_enum {p tpos : Pos} {elts : List Expr} {kk : Nat} (hg : Gl X "enumerate") (hm : X.mg "enumerate" = none) (ha : JA X cl W [a] fr) (hs : starEach [a] X.env = [(false, eval a X.env)] := by rfl) :
    JI X cl W (.Tuple elts kk tpos) (.Call (.Name "enumerate" p) [a] [] pos) (enumF fr) := (pi_enumK hg hm ha hs).imp fun σ H R h => by
  obtain ⟨M, ι, δ, s, C, S, P⟩ := h
  refine ⟨M, ι, δ, s, C, S, Post.mono (Post.bind (Reps X.K) P) fun u H1 m => ?_⟩
  obtain ⟨M1, ι1, x, s1, t1, C1, r1, P1⟩ := m.ex
  split at P1
  · split at P1
    · rename_i h1
      obtain ⟨u, rfl, r2⟩ := r1.one
      obtain ⟨c1, vs, rfl, q1, z1⟩ := src_ok r2 h1
      exact ⟨c1, vs, rfl, z1 _ C1.sub, fun t1 => Post.now (C := CI X.K) P1 C1 (itOk_enum q1 z1)⟩
    · exact P1.elim
  · exact P1.elim
end
end Fl
set_option Elab.async false
set_option linter.all false
set_option maxRecDepth 100000
namespace Fl
open PySem PySem.Spec PyProof.Rows L2
/-! ### in -/
def atomD : D → Bool
  | .non => true
  | .bl _ => true
  | .int _ => true
  | .str _ => true
  | _ => false
theorem atom_v {K : PySem.W.Frag} {M : Hp} {x : D} {v : V} (h : RepF K M x v) (a : atomD x = true) : flatV v = true := by
  cases x with
  | non => unfold RepF at h; subst h; rfl
  | bl b => unfold RepF at h; subst h; rfl
  | int b => unfold RepF at h; subst h; rfl
  | str b => unfold RepF at h; obtain ⟨rfl, _⟩ := h; rfl
  | _ => cases a
theorem atom_eq {K : PySem.W.Frag} {M M' : Hp} {x z : D} {v u : V} (h : RepF K M x v) (a : atomD x = true) (h' : RepF K M' z u) (a' : atomD z = true) : eqV u v = deq z x := by
  cases x with
  | non => unfold RepF at h; subst h; cases z with
    | non => unfold RepF at h'; subst h'; simp [eqV, deq, toPy, PyData.eqv]
    | bl b => unfold RepF at h'; subst h'; simp [eqV, deq, toPy, PyData.eqv]
    | int b => unfold RepF at h'; subst h'; simp [eqV, deq, toPy, PyData.eqv]
    | str b => unfold RepF at h'; obtain ⟨rfl, _⟩ := h'; simp [eqV, deq, toPy, PyData.eqv]
    | _ => cases a'
  | bl b => unfold RepF at h; subst h; cases z with
    | non => unfold RepF at h'; subst h'; simp [eqV, deq, toPy, PyData.eqv]
    | bl b => unfold RepF at h'; subst h'; simp [eqV, deq, toPy, PyData.eqv]
    | int b => unfold RepF at h'; subst h'; simp [eqV, deq, toPy, PyData.eqv]
    | str b => unfold RepF at h'; obtain ⟨rfl, _⟩ := h'; simp [eqV, deq, toPy, PyData.eqv]
    | _ => cases a'
  | int b => unfold RepF at h; subst h; cases z with
    | non => unfold RepF at h'; subst h'; simp [eqV, deq, toPy, PyData.eqv]
    | bl b => unfold RepF at h'; subst h'; simp [eqV, deq, toPy, PyData.eqv]
    | int b => unfold RepF at h'; subst h'; simp [eqV, deq, toPy, PyData.eqv]
    | str b => unfold RepF at h'; obtain ⟨rfl, _⟩ := h'; simp [eqV, deq, toPy, PyData.eqv]
    | _ => cases a'
  | str b => unfold RepF at h; obtain ⟨rfl, _⟩ := h; cases z with
    | non => unfold RepF at h'; subst h'; simp [eqV, deq, toPy, PyData.eqv]
    | bl b => unfold RepF at h'; subst h'; simp [eqV, deq, toPy, PyData.eqv]
    | int b => unfold RepF at h'; subst h'; simp [eqV, deq, toPy, PyData.eqv]
    | str b => unfold RepF at h'; obtain ⟨rfl, _⟩ := h'; simp [eqV, deq, toPy, PyData.eqv]
    | _ => cases a'
  | _ => cases a
theorem atoms_v {K : PySem.W.Frag} {M : Hp} : ∀ {ds : List D} {vs : List V}, RepL K M ds vs → ds.all atomD = true → vs.all flatV = true
  | [], _, h, _ => by rw [h.unnil]; rfl
  | d :: ds, _, h, a => by
    obtain ⟨v, r, rfl, h1, h2⟩ := h.uncons
    simp only [List.all_cons, Bool.and_eq_true] at a ⊢
    exact ⟨atom_v h1 a.1, atoms_v h2 a.2⟩
theorem atoms_in {K : PySem.W.Frag} {M M' : Hp} {x : D} {v : V} (h : RepF K M x v) (a : atomD x = true) : ∀ {ds : List D} {vs : List V}, RepL K M' ds vs → ds.all atomD = true → inV v vs = ds.any fun z => deq z x
  | [], _, h, _ => by rw [h.unnil]; rfl
  | d :: ds, _, h', a' => by
    obtain ⟨u, r, rfl, h1, h2⟩ := h'.uncons
    simp only [List.all_cons, Bool.and_eq_true] at a'
    have := atoms_in h a h2 a'.2
    unfold inV at this ⊢
    rw [List.any_cons, List.any_cons, this, atom_eq h a h1 a'.1]
def isIn (x : D) (ds : List D) : Bool := ds.any fun z => deq z x
def inB (s : Sto) (x y : D) : Option Bool := match view s y with
  | .str z => match x with
    | .str [c] => some (decide (c ∈ z))
    | _ => none
  | .lst ds => if dep (view s x) ≤ 60 ∧ deps ds ≤ 59 then some (isIn (view s x) ds) else none
  | .tup ds => if atomD x = true ∧ ds.all atomD = true then some (isIn x ds) else none
  | _ => none
def inG : Op2 := fun s x y => match inB s x y with
  | some b => .val (.bl b) s
  | none => .stuck
def ninG : Op2 := fun s x y => match inB s x y with
  | some b => .val (.bl (!b)) s
  | none => .stuck
def rSign (f : Bool → Bool) : R2 := fun x y H Q => ∃ (c : Nat) (z : Str), x = .str ⟨#[c]⟩ ∧ y = .str z ∧ Q (.bl (f (decide (c ∈ z.cps.toList)))) H
def rInX (K : PySem.W.Frag) (f : Bool → Bool) : R2 := fun x y H Q => ∃ d ds, Dp K H x d ∧ Dp K H y (.list ds) ∧ SeqAt.shaped d = true ∧ SeqAt.shaped (.list ds) = true ∧ Q (.bl (f (ds.any fun z => PyData.eqv z d))) H
def rInU (K : PySem.W.Frag) : R2 := fun x y H Q => (rSign id x y H Q ∨ rInX K id x y H Q) ∨ rIn K false x y H Q
def rNinU (K : PySem.W.Frag) : R2 := fun x y H Q => (rSign not x y H Q ∨ rInX K not x y H Q) ∨ rIn K true x y H Q
theorem op_inU {X : Cx} (hu : X.A.units + 65 < cLine) : OpR X (compareOp .In) (rInU X.K) := (OpR.or (r := rSign id) (r' := rInX X.K id) op_in_sign (op_inD hu)).or op_in_seq
theorem op_ninU {X : Cx} (hu : X.A.units + 65 < cLine) : OpR X (compareOp .NotIn) (rNinU X.K) := (OpR.or (r := rSign not) (r' := rInX X.K not) op_notIn_sign (op_notInD hu)).or op_notIn_seq
theorem toPys_any {x : D} : ∀ ds : List D, (toPys ds).any (fun z => PyData.eqv z (toPy x)) = isIn x ds
  | [] => rfl
  | d :: ds => by
    unfold toPys isIn
    rw [List.any_cons, List.any_cons, toPys_any ds]; rfl
theorem in_main {K : PySem.W.Frag} (neg : Bool) {M : Hp} {ι : List Addr} {s : Sto} {H : Hp} {x y : D} {u v : V} {b : Bool} {Q : VK} (C : Conc K M ι s H) (rx : Rep K M ι x u) (ry : Rep K M ι y v) (e : inB s x y = some b) (q : Q (.bl (if neg then !b else b)) H) :
    (rSign (fun b => if neg then !b else b) u v H Q ∨ rInX K (fun b => if neg then !b else b) u v H Q) ∨ rIn K neg u v H Q := by
  have sy := C.sees ry
  unfold inB at e
  split at e
  · rename_i z e1
    rw [e1] at sy
    split at e
    · rename_i c
      cases e
      obtain ⟨rfl, _⟩ := sy.str
      obtain ⟨rfl, _⟩ := rx.str
      exact .inl (.inl ⟨c, _, rfl, rfl, q⟩)
    · cases e
  · rename_i ds e1
    rw [e1] at sy
    split at e
    · rename_i hd
      cases e
      have sx := C.sees rx
      have dy : dep (.lst ds) ≤ 60 := by unfold dep; omega
      have p := sy.dp C.sub (by omega)
      have l := sy.shaped dy
      unfold toPy at p l
      refine .inl (.inr ⟨_, _, sx.dp C.sub (by omega), p, sx.shaped hd.1, l, ?_⟩)
      rw [toPys_any]
      exact q
    · cases e
  · rename_i ds e1
    rw [e1] at sy
    split at e
    · rename_i hd
      cases e
      obtain ⟨a, vs, rfl, h1, r1⟩ := sy.tup
      have rx' : RepF K M x u := rx.f (by cases x <;> first | rfl | (have z := hd.1; cases z))
      refine .inr ⟨a, vs, rfl, .inr (Ex.t C.sub h1.sq), atom_v rx' hd.1, atoms_v r1 hd.2, ?_⟩
      rw [atoms_in rx' hd.1 r1 hd.2]
      exact q
    · cases e
  · cases e
theorem ok_in {K : PySem.W.Frag} : Ok2 K (rInU K) inG := fun Wx M ι s H x y u v Q C rx ry P => by
  unfold inG at P
  split at P
  · rename_i b e
    exact in_main false C rx ry e (Post.now (C := Rep K) P C rf_bl)
  · exact P.elim
theorem ok_nin {K : PySem.W.Frag} : Ok2 K (rNinU K) ninG := fun Wx M ι s H x y u v Q C rx ry P => by
  unfold ninG at P
  split at P
  · rename_i b e
    exact in_main true C rx ry e (Post.now (C := Rep K) P C rf_bl)
  · exact P.elim
/-! ### min, max, all, tuple -/
def intsD : List D → Option (List Int)
  | [] => some []
  | .int i :: ds => (intsD ds).map (i :: ·)
  | _ => none
def blsD : List D → Option (List Bool)
  | [] => some []
  | .bl i :: ds => (blsD ds).map (i :: ·)
  | _ => none
def strsD : List D → Option (List (List Nat))
  | [] => some []
  | .str i :: ds => (strsD ds).map (i :: ·)
  | _ => none
theorem ints_v {K : PySem.W.Frag} {M : Hp} : ∀ {ds : List D} {vs : List V} {ns : List Int}, RepL K M ds vs → intsD ds = some ns → vs = ns.map V.int
  | [], _, _, h, e => by cases e; rw [h.unnil]; rfl
  | d :: ds, _, ns, h, e => by
    obtain ⟨v, r, rfl, h1, h2⟩ := h.uncons
    cases d with
    | int i =>
      unfold intsD at e
      obtain ⟨ms, h3, rfl⟩ := Option.map_eq_some_iff.mp e
      unfold RepF at h1; subst h1
      rw [ints_v h2 h3]; rfl
    | _ => cases e
theorem bls_v {K : PySem.W.Frag} {M : Hp} : ∀ {ds : List D} {vs : List V} {ns : List Bool}, RepL K M ds vs → blsD ds = some ns → vs = ns.map V.bl
  | [], _, _, h, e => by cases e; rw [h.unnil]; rfl
  | d :: ds, _, ns, h, e => by
    obtain ⟨v, r, rfl, h1, h2⟩ := h.uncons
    cases d with
    | bl i =>
      unfold blsD at e
      obtain ⟨ms, h3, rfl⟩ := Option.map_eq_some_iff.mp e
      unfold RepF at h1; subst h1
      rw [bls_v h2 h3]; rfl
    | _ => cases e
theorem strs_v {K : PySem.W.Frag} {M : Hp} : ∀ {ds : List D} {vs : List V} {ns : List (List Nat)}, RepL K M ds vs → strsD ds = some ns → vs = ns.map (fun cs => V.str ⟨cs.toArray⟩) ∧ ∀ cs ∈ ns, okS cs = true
  | [], _, _, h, e => by cases e; rw [h.unnil]; exact ⟨rfl, fun _ z => nomatch z⟩
  | d :: ds, _, ns, h, e => by
    obtain ⟨v, r, rfl, h1, h2⟩ := h.uncons
    cases d with
    | str i =>
      unfold strsD at e
      obtain ⟨ms, h3, rfl⟩ := Option.map_eq_some_iff.mp e
      unfold RepF at h1
      obtain ⟨rfl, o⟩ := h1
      obtain ⟨q1, q2⟩ := strs_v h2 h3
      rw [q1]
      refine ⟨rfl, fun cs z => ?_⟩
      rcases List.mem_cons.mp z with rfl | z
      · exact o
      · exact q2 cs z
    | _ => cases e
def minL (ns : List Int) : Int := ns.min?.getD 0
def maxL (ns : List Int) : Int := ns.max?.getD 0
def minG (s : Sto) : List D → O D
  | [.int i, .int j] => .val (.int (if j < i then j else i)) s
  | [x] => match view s x with
    | .lst ds => match intsD ds with
      | some ns => if 0 < ns.length then .val (.int (minL ns)) s else .stuck
      | none => .stuck
    | _ => .stuck
  | _ => .stuck
def maxG (s : Sto) : List D → O D
  | [.int i, .int j] => .val (.int (if j > i then j else i)) s
  | [x] => match view s x with
    | .lst ds => match intsD ds with
      | some ns => if 0 < ns.length then .val (.int (maxL ns)) s else .stuck
      | none => .stuck
    | _ => .stuck
  | _ => .stuck
def rMin2 : List V → Hp → VK → Prop := fun xs H Q => ∃ i j, xs = [.int i, .int j] ∧ Q (.int (if j < i then j else i)) H
def rMax2 : List V → Hp → VK → Prop := fun xs H Q => ∃ i j, xs = [.int i, .int j] ∧ Q (.int (if j > i then j else i)) H
theorem call_minU {X : Cx} (hc : X.calm = true) : CallR X (.builtin "min") (fun xs H Q => rMin2 xs H Q ∨ rMin X.K xs H Q) := CallR.or (r := rMin2) (call_min2 hc) (cr_min hc)
theorem call_maxU {X : Cx} (hc : X.calm = true) : CallR X (.builtin "max") (fun xs H Q => rMax2 xs H Q ∨ rMax X.K xs H Q) := CallR.or (r := rMax2) (call_max2 hc) (cr_max hc)
theorem min_at {ns : List Int} (h : 0 < ns.length) {m : Int} (h1 : m ∈ ns) (h2 : ∀ y ∈ ns, m ≤ y) : m = minL ns := by
  have : ns.min? = some m := List.min?_eq_some_iff.mpr ⟨h1, h2⟩
  rw [minL, this]; rfl
theorem max_at {ns : List Int} (h : 0 < ns.length) {m : Int} (h1 : m ∈ ns) (h2 : ∀ y ∈ ns, y ≤ m) : m = maxL ns := by
  have : ns.max? = some m := List.max?_eq_some_iff.mpr ⟨h1, h2⟩
  rw [maxL, this]; rfl
theorem ok_min {K : PySem.W.Frag} : OkN K (fun xs H Q => rMin2 xs H Q ∨ rMin K xs H Q) minG := fun Wx M ι s H xs us Q C r P => by
  unfold minG at P
  split at P
  · obtain ⟨u, w, rfl, rx, ry⟩ := r.two
    exact .inl ⟨_, _, by rw [rx.int, ry.int], Post.now (C := Rep K) P C rf_int⟩
  · obtain ⟨u, rfl, rx⟩ := r.one
    have s1 := C.sees rx
    split at P
    · rename_i ds e
      rw [e] at s1
      split at P
      · rename_i ns hn
        split at P
        · rename_i hl
          obtain ⟨a, vs, rfl, h1, r1⟩ := s1
          rw [ints_v r1 hn] at h1
          exact .inr ⟨a, ns, rfl, SqL.of h1, hl, fun m q1 q2 => by rw [min_at hl q1 q2]; exact Post.now (C := Rep K) P C rf_int⟩
        · exact P.elim
      · exact P.elim
    · exact P.elim
  · exact P.elim
theorem ok_max {K : PySem.W.Frag} : OkN K (fun xs H Q => rMax2 xs H Q ∨ rMax K xs H Q) maxG := fun Wx M ι s H xs us Q C r P => by
  unfold maxG at P
  split at P
  · obtain ⟨u, w, rfl, rx, ry⟩ := r.two
    exact .inl ⟨_, _, by rw [rx.int, ry.int], Post.now (C := Rep K) P C rf_int⟩
  · obtain ⟨u, rfl, rx⟩ := r.one
    have s1 := C.sees rx
    split at P
    · rename_i ds e
      rw [e] at s1
      split at P
      · rename_i ns hn
        split at P
        · rename_i hl
          obtain ⟨a, vs, rfl, h1, r1⟩ := s1
          rw [ints_v r1 hn] at h1
          exact .inr ⟨a, ns, rfl, SqL.of h1, hl, fun m q1 q2 => by rw [max_at hl q1 q2]; exact Post.now (C := Rep K) P C rf_int⟩
        · exact P.elim
      · exact P.elim
    · exact P.elim
  · exact P.elim
def allG (s : Sto) : List D → O D
  | [x] => match view s x with
    | .lst ds => match blsD ds with
      | some bs => .val (.bl (bs.all id)) s
      | none => .stuck
    | _ => .stuck
  | _ => .stuck
theorem ok_all {K : PySem.W.Frag} : OkN K (rAll K) allG := fun Wx M ι s H xs us Q C r P => by
  unfold allG at P
  split at P
  · obtain ⟨u, rfl, rx⟩ := r.one
    have s1 := C.sees rx
    split at P
    · rename_i ds e
      rw [e] at s1
      split at P
      · rename_i bs hn
        obtain ⟨a, vs, rfl, h1, r1⟩ := s1
        rw [bls_v r1 hn] at h1
        exact ⟨a, bs, rfl, SqL.of h1, Post.now (C := Rep K) P C rf_bl⟩
      · exact P.elim
    · exact P.elim
  · exact P.elim
def sumG (s : Sto) : List D → O D
  | [x] => match view s x with
    | .lst ds => match intsD ds with
      | some ns => .val (.int ns.sum) s
      | none => .stuck
    | _ => .stuck
  | _ => .stuck
theorem ok_sum {K : PySem.W.Frag} : OkN K (rSum K) sumG := fun Wx M ι s H xs us Q C r P => by
  unfold sumG at P
  split at P
  · obtain ⟨u, rfl, rx⟩ := r.one
    have s1 := C.sees rx
    split at P
    · rename_i ds e
      rw [e] at s1
      split at P
      · rename_i bs hn
        obtain ⟨a, vs, rfl, h1, r1⟩ := s1
        rw [ints_v r1 hn] at h1
        exact ⟨a, bs, rfl, SqL.of h1, Post.now (C := Rep K) P C rf_int⟩
      · exact P.elim
    · exact P.elim
  · exact P.elim
def tupleG (s : Sto) : List D → O D
  | [x] => match view s x with
    | .lst ds => .val (.tup ds) s
    | .tup ds => .val (.tup ds) s
    | _ => .stuck
  | _ => .stuck
def rTupU (K : PySem.W.Frag) : List V → Hp → VK → Prop := fun xs H Q => ∃ p ys, xs = [.ref p] ∧ ((SqL K H p ys ∧ ∀ l, H l = none → Q (.ref l) (upd H l (.tup ys))) ∨ (SqT K H p ys ∧ Q (.ref p) H))
theorem call_tupU {X : Cx} : CallR X (.type "tuple") (rTupU X.K) := call_tuple_of
theorem ok_tuple {K : PySem.W.Frag} : OkN K (rTupU K) tupleG := fun Wx M ι s H xs us Q C r P => by
  unfold tupleG at P
  split at P
  · obtain ⟨u, rfl, rx⟩ := r.one
    have s1 := C.sees rx
    split at P
    · rename_i ds e
      rw [e] at s1
      obtain ⟨a, vs, rfl, h1, r1⟩ := s1
      exact ⟨a, vs, rfl, .inl ⟨SqL.of h1, fun l hl => Post.laidT P C r1 hl⟩⟩
    · rename_i ds e
      rw [e] at s1
      obtain ⟨a, vs, rfl, h1, r1⟩ := s1.tup
      exact ⟨a, vs, rfl, .inr ⟨Ex.t C.sub h1.sq, Post.now (C := Rep K) P C (Rep.of (by unfold RepF; exact ⟨a, vs, rfl, h1, r1⟩))⟩⟩
    · exact P.elim
  · exact P.elim
/-! ### methods of lists of one's own -/
def isOwn (s : Sto) : D → Bool
  | .ob k => match s[k]? with
    | some (.lst _) => true
    | _ => false
  | _ => false
theorem ty_own {K : PySem.W.Frag} : TyM K "list" isOwn := fun M ι s H x u C r h => by
  cases x with
  | ob k =>
    obtain ⟨a, rfl, hk⟩ := r
    unfold isOwn at h
    simp only at h
    split at h
    · rename_i ds e
      obtain ⟨_, vs, h1, _⟩ := C.obs k a _ hk e
      exact .inl ⟨rfl, vs, SqL.of h1⟩
    · cases h
  | _ => cases h
def appG (s : Sto) (x : D) : List D → O D
  | [d] => match x with
    | .ob k => match s[k]? with
      | some (.lst ds) => if ds.length < 16000000 then .val .non (s.set k (.lst (ds ++ [d]))) else .stuck
      | _ => .stuck
    | _ => .stuck
  | _ => .stuck
theorem lim_lt {n : Nat} (h : n < 16000000) : n < sizeLine := Nat.lt_of_lt_of_le h (by decide)
theorem ok_app {K : PySem.W.Frag} : OkM K "list" rAppend appG := fun Wx M ι s H x u xs us Q C rx rs P => by
  unfold appG at P
  split at P
  · split at P
    · rename_i k
      split at P
      · rename_i ds e
        split at P
        · rename_i hl
          obtain ⟨w, rfl, rd⟩ := rs.one
          obtain ⟨a, rfl, hk⟩ := rx
          obtain ⟨hM, vs, h1, r1⟩ := C.obs k a _ hk e
          obtain ⟨C2, t2⟩ := C.put (o := .lst (vs ++ [w])) (u := .lst (ds ++ [_])) hk hM ⟨hM, _, upd_same, r1.append (.cons rd .nil)⟩
          exact ⟨a, vs, w, rfl, rfl, h1, by rw [r1.length]; exact lim_lt hl, P _ _ _ _ t2 C2 rf_non⟩
        · exact P.elim
      · exact P.elim
    · exact P.elim
  · exact P.elim
end Fl
set_option Elab.async false
set_option linter.all false
set_option maxRecDepth 100000
namespace Fl
open PySem PySem.Spec PyProof.Rows L2 TL
/-! ### extend -/
def extG (s : Sto) (x : D) : List D → O D
  | [y] => match x, view s y with
    | .ob k, .lst es => match s[k]? with
      | some (.lst ds) => if ds.length + es.length ≤ 16000000 then .val .non (s.set k (.lst (ds ++ es))) else .stuck
      | _ => .stuck
    | _, _ => .stuck
  | _ => .stuck
theorem ok_ext {K : PySem.W.Frag} : OkM K "list" rExtend extG := fun Wx M ι s H x u xs us Q C rx rs P => by
  unfold extG at P
  split at P
  · rename_i y
    obtain ⟨w, rfl, ry⟩ := rs.one
    have sy := C.sees ry
    split at P
    · rename_i k es e1
      rw [e1] at sy
      split at P
      · rename_i ds e
        split at P
        · rename_i hl
          obtain ⟨b, ws, rfl, g1, g2⟩ := sy
          obtain ⟨a, rfl, hk⟩ := rx
          obtain ⟨hM, vs, h1, r1⟩ := C.obs k a _ hk e
          obtain ⟨C2, t2⟩ := C.put (o := .lst (vs ++ ws)) (u := .lst (ds ++ es)) hk hM ⟨hM, _, upd_same, r1.append (Reps.of g2)⟩
          exact ⟨a, b, vs, ws, rfl, rfl, h1, g1, by rw [r1.length, g2.length]; exact lim_le hl, P _ _ _ _ t2 C2 rf_non⟩
        · exact P.elim
      · exact P.elim
    · exact P.elim
  · exact P.elim
/-! ### texts: join, count -/
def isStr (s : Sto) : D → Bool
  | .str _ => true
  | _ => false
theorem ty_str {K : PySem.W.Frag} : TyM K "str" isStr := fun M ι s H x u C r h => by
  cases x with
  | str cs => obtain ⟨rfl, _⟩ := r.str; exact rfl
  | _ => cases h
theorem join_flat : ∀ xs : List (List Nat), joinL [] xs = xs.flatten
  | [] => rfl
  | [p] => by simp [joinL]
  | p :: q :: r => by
    have := join_flat (q :: r)
    show p ++ ([] ++ joinL [] (q :: r)) = _
    rw [this]; simp
def joinG (s : Sto) (x : D) : List D → O D
  | [y] => match x, view s y with
    | .str [], .lst ds => match strsD ds with
      | some xs => if xs.flatten.length ≤ 16000000 then .val (.str xs.flatten) s else .stuck
      | none => .stuck
    | _, _ => .stuck
  | _ => .stuck
def rJoin (K : PySem.W.Frag) : V → List V → Hp → VK → Prop := fun x xs H Q => ∃ a p, ∃ ys : List Str, x = .str a ∧ xs = [.ref p] ∧ (SqL K H p (ys.map V.str) ∨ SqT K H p (ys.map V.str)) ∧ (ys.map (·.length)).sum + ys.length * a.length ≤ 16777216 ∧ Q (.str (Txt.join a ys)) H
theorem tl_arr (cs : List Nat) : tl (⟨cs.toArray⟩ : Str) = cs := by simp [tl]
theorem okS_flat : ∀ {xs : List (List Nat)}, (∀ x ∈ xs, okS x = true) → okS xs.flatten = true
  | [], _ => rfl
  | x :: xs, h => by
    rw [List.flatten_cons]
    exact okS_app (h x (by simp)) (okS_flat fun y hy => h y (by simp [hy]))
theorem ok_join {K : PySem.W.Frag} : OkM K "str" (rJoin K) joinG := fun Wx M ι s H x u xs us Q C rx rs P => by
  unfold joinG at P
  split at P
  · rename_i y
    obtain ⟨w, rfl, ry⟩ := rs.one
    have sy := C.sees ry
    split at P
    · rename_i ds e1
      rw [e1] at sy
      split at P
      · rename_i zs hz
        split at P
        · rename_i hl
          obtain ⟨b, ws, rfl, g1, g2⟩ := sy
          obtain ⟨rfl, _⟩ := rx.str
          obtain ⟨q1, q2⟩ := strs_v g2 hz
          have e2 : ws = (zs.map fun cs => (⟨cs.toArray⟩ : Str)).map V.str := by rw [q1, List.map_map]; rfl
          refine ⟨⟨([] : List Nat).toArray⟩, b, zs.map fun cs => ⟨cs.toArray⟩, rfl, rfl, .inl (by rw [← e2]; exact SqL.of g1), ?_, ?_⟩
          · have : ((zs.map fun cs => (⟨cs.toArray⟩ : Str)).map (·.length)).sum = zs.flatten.length := by
              rw [List.map_map, List.length_flatten]; congr 1
            rw [this]
            show zs.flatten.length + _ * 0 ≤ 16777216
            omega
          · have e3 : Txt.join (⟨([] : List Nat).toArray⟩ : Str) (zs.map fun cs => (⟨cs.toArray⟩ : Str)) = ⟨zs.flatten.toArray⟩ := by
              rw [join_eq]
              have h1 := tl_join (⟨([] : List Nat).toArray⟩ : Str) (zs.map fun cs => (⟨cs.toArray⟩ : Str))
              rw [tl_arr, List.map_map, show (tl ∘ fun cs : List Nat => (⟨cs.toArray⟩ : Str)) = fun cs => cs from funext fun cs => tl_arr cs, List.map_id'', join_flat] at h1
              · generalize Str.join _ _ = z at h1 ⊢
                cases z with
                | mk cps => simp [tl] at h1; rw [← h1]
              · exact fun x => rfl
            rw [e3]
            exact Post.now (C := Rep K) P C (rf_str (okS_flat q2))
        · exact P.elim
      · exact P.elim
    · exact P.elim
  · exact P.elim
section
open Builtin Builtin.Str PySem.StrLaws
theorem occ_count (x : Str) (c limit : Nat) : ∀ (n a : Nat) (arr : Array Nat) (free : Nat), free ≤ a → arr.size + n ≤ limit →
    ((forIn (List.range' a n) (arr, free) (occBody x ⟨#[c]⟩ x.length limit)).run.fst).size = arr.size + ((List.range' a n).filter fun i => x.cps.toList[i]? == some c).length
  | 0, a, arr, free, _, _ => by simp
  | n + 1, a, arr, free, hf, hl => by
    rw [List.range'_succ, List.forIn_cons]
    unfold occBody
    by_cases hc : x.cps.toList[a]? = some c
    · obtain ⟨h1, h2⟩ := (subAt_one x c a).mpr hc
      rw [if_pos ⟨⟨⟨by show arr.size < limit; omega, hf⟩, h1⟩, h2⟩]
      have ih := occ_count x c limit n (a + 1) (arr.push a) (a + (⟨#[c]⟩ : Str).length) (by show a + 1 ≤ a + 1; omega) (by simp; omega)
      refine Eq.trans ih ?_
      rw [List.filter_cons_of_pos (by rw [hc]; simp)]
      simp; omega
    · have hn : ¬ (((arr.size < limit ∧ free ≤ a) ∧ a + (⟨#[c]⟩ : Str).length ≤ x.length) ∧ subAt x ⟨#[c]⟩ a = true) := fun h => hc ((subAt_one x c a).mp ⟨h.1.2, h.2⟩)
      rw [if_neg hn]
      have ih := occ_count x c limit n (a + 1) arr free (by omega) (by omega)
      refine Eq.trans ih ?_
      rw [List.filter_cons_of_neg (by simpa using hc)]
theorem filter_count (l : List Nat) (c : Nat) : ∀ (m : Nat), ((List.range' 0 (l.length + m)).filter fun i => l[i]? == some c).length = l.count c := by
  have key : ∀ (l : List Nat) (a m : Nat) (f : Nat → Option Nat), (∀ i, f (a + i) = l[i]?) → ((List.range' a (l.length + m)).filter fun i => f i == some c).length = l.count c := by
    intro l
    induction l with
    | nil =>
      intro a m f hf
      simp only [List.length_nil, Nat.zero_add, List.count_nil, List.length_eq_zero_iff, List.filter_eq_nil_iff]
      intro i hi
      obtain ⟨h1, h2⟩ := List.mem_range'_1.mp hi
      have := hf (i - a)
      rw [show a + (i - a) = i by omega] at this
      rw [this]; simp
    | cons x l ih =>
      intro a m f hf
      rw [show (x :: l).length + m = (l.length + m) + 1 by simp; omega, List.range'_succ, List.filter_cons]
      have h0 := hf 0
      simp at h0
      have ih' := ih (a + 1) m f (fun i => by rw [show a + 1 + i = a + (i + 1) by omega, hf]; simp)
      rw [h0, List.count_cons]
      by_cases e : x = c
      · subst e; simp [ih']
      · have e' : (x == c) = false := by simpa using e
        simp [e, e', ih']
  exact fun m => key l 0 m _ fun i => by simp
theorem count_one (x : Str) (c : Nat) : Txt.count x ⟨#[c]⟩ = (x.cps.toList.count c : Nat) := by
  unfold Txt.count
  rw [occ_eq, Array.length_toList]
  have h := occ_count x c (x.length + 1) (x.length + 1) 0 #[] 0 (Nat.le_refl _) (by simp)
  rw [Nat.sub_zero, h]
  have e : x.length = x.cps.toList.length := by simp [Str.length]
  rw [e, filter_count]; simp
end
def cntG (s : Sto) (x : D) : List D → O D
  | [.str [c]] => match x with
    | .str cs => .val (.int (cs.count c : Nat)) s
    | _ => .stuck
  | _ => .stuck
def rCnt : V → List V → Hp → VK → Prop := fun x xs H Q => ∃ a b, x = .str a ∧ xs = [.str b] ∧ Q (.int (Txt.count a b)) H
theorem ok_cnt {K : PySem.W.Frag} : OkM K "str" rCnt cntG := fun Wx M ι s H x u xs us Q C rx rs P => by
  unfold cntG at P
  split at P
  · rename_i c
    obtain ⟨w, rfl, ry⟩ := rs.one
    split at P
    · obtain ⟨rfl, _⟩ := rx.str
      obtain ⟨rfl, _⟩ := ry.str
      refine ⟨_, _, rfl, rfl, ?_⟩
      rw [count_one]
      exact Post.now (C := Rep K) P C (by simp; exact rf_int)
    · exact P.elim
  · exact P.elim
/-! ### slices -/
abbrev PF := Sl → Sto → O (Option Int)
abbrev CO : Car (Option Int) (Option Int) := fun _ _ a b => b = a
def rdO (K : PySem.W.Frag) (cl : Nat → Value) (W : WX) (f : PF) : TO := fun σ H Q => At K CO (wx cl W σ) f σ H Q
abbrev JO (X : Cx) (cl : Nat → Value) (W : WX) (e : Option Expr) (f : PF) : Prop := PO X e (rdO X.K cl W f)
theorem _root_.L2.PO.imp {X : Cx} {e : Option Expr} {t t' : TO} (h : PO X e t) (i : ∀ σ H Q, t' σ H Q → t σ H Q) : PO X e t' := ⟨fun pins s σ H Q I q => h.run pins s σ H Q I (i σ H Q q)⟩
def noP : PF := fun _ s => .val none s
def parF (f : EF) : PF := fun δ s => (f δ s).bind fun d s1 => match d with
  | .int i => .val (some i) s1
  | _ => .stuck
section
variable {X : Cx} {cl : Nat → Value} {W : WX} {e a b : Expr} {fa : EF} {fr : AF} {pos p2 : Pos}
theorem jo_none : JO X cl W none noP := po_none.imp fun σ H Q h => by
  obtain ⟨M, ι, δ, s, C, S, P⟩ := h
  exact Post.now (C := CO) P C rfl
theorem jo_some (h : JE X cl W e fa) : JO X cl W (some e) (parF fa) := (po_some h).imp fun σ H Q h => by
  obtain ⟨M, ι, δ, s, C, S, P⟩ := h
  refine ⟨M, ι, δ, s, C, S, Post.mono (Post.bind (Rep X.K) P) fun u H1 m => ?_⟩
  obtain ⟨M1, ι1, x, s1, t1, C1, r1, P1⟩ := m.ex
  split at P1
  · cases r1.int
    exact ⟨_, rfl, Post.now (C := CO) P1 C1 rfl⟩
  · exact P1.elim
def cutD {α : Type} (xs : List α) (lo hi : Option Int) : List α := (xs.drop (HT.sIx xs.length 0 lo)).take (HT.sIx xs.length xs.length hi - HT.sIx xs.length 0 lo)
def slG (s : Sto) (x : D) (lo hi : Option Int) : O D := match view s x with
  | .str cs => if cs.length ≤ 16000000 then .val (.str (cutD cs lo hi)) s else .stuck
  | .lst ds => .val (.lst (cutD ds lo hi)) s
  | .tup ds => .val (.tup (cutD ds lo hi)) s
  | _ => .stuck
def slF (g : Sto → D → Option Int → Option Int → O D) (fa : EF) (lo hi : PF) : EF := fun δ s => (fa δ s).bind fun x s1 => (lo δ s1).bind fun l s2 => (hi δ s2).bind fun u s3 => g s3 x l u
def rSlU (K : PySem.W.Frag) : V → Option Int → Option Int → Hp → VK → Prop := fun x lo hi H Q => (rSlS x lo hi H Q ∨ rSlL K x lo hi H Q) ∨ rSlA K x lo hi H Q
theorem sl_U {X : Cx} : SlR X (rSlU X.K) := (sl_str.or sl_list).or sl_tupA
def OkSl (K : PySem.W.Frag) (r : V → Option Int → Option Int → Hp → VK → Prop) (g : Sto → D → Option Int → Option Int → O D) : Prop := ∀ (Wx : Nat → Hp → Prop) (M : Hp) (ι : List Addr) (s : Sto) (H : Hp) (x : D) (u : V) (lo hi : Option Int) (Q : VK), Conc K M ι s H → Rep K M ι x u → Post K (Rep K) Wx M ι H (g s x lo hi) Q → r u lo hi H Q
theorem RepL.cut {K : PySem.W.Frag} {M : Hp} {ds : List D} {vs : List V} (r : RepL K M ds vs) (lo hi : Option Int) : RepL K M (cutD ds lo hi) (cutV vs lo hi) := by
  unfold cutD cutV
  rw [r.length]
  exact (r.drop _).take _
theorem okS_cut {cs : List Nat} (h : okS cs = true) (lo hi : Option Int) : okS (cutD cs lo hi) = true := by
  unfold okS at *
  rw [List.all_eq_true] at h ⊢
  exact fun c hc => h c (List.mem_of_mem_drop (List.mem_of_mem_take hc))
theorem ok_sl {K : PySem.W.Frag} : OkSl K (rSlU K) slG := fun Wx M ι s H x u lo hi Q C rx P => by
  have s1 := C.sees rx
  unfold slG at P
  split at P
  · rename_i cs e
    rw [e] at s1
    split at P
    · rename_i hl
      obtain ⟨rfl, o⟩ := s1.str
      refine .inl (.inl ⟨_, rfl, by show (SX.S cs).length ≤ sizeLine; rw [SX.S_len]; exact lim_le hl, ?_⟩)
      have e2 : cutS (⟨cs.toArray⟩ : Str) lo hi = ⟨(cutD cs lo hi).toArray⟩ := by simp [cutS, cutD, Str.length]
      rw [e2]
      exact Post.now (C := Rep K) P C (rf_str (okS_cut o lo hi))
    · exact P.elim
  · rename_i ds e
    rw [e] at s1
    obtain ⟨a, vs, rfl, h1, r1⟩ := s1
    exact .inl (.inr ⟨a, vs, rfl, SqL.of h1, fun l hl => Post.laidL P C (r1.cut lo hi) hl⟩)
  · rename_i ds e
    rw [e] at s1
    obtain ⟨a, vs, rfl, h1, r1⟩ := s1.tup
    refine .inr ⟨a, vs, rfl, Ex.t C.sub h1.sq, fun hw => ?_, fun _ l hl => Post.laidT P C (r1.cut lo hi) hl⟩
    have e2 : cutD ds lo hi = ds := by
      unfold cutD
      rw [← r1.length, hw.1, hw.2, List.drop_zero, Nat.sub_zero, r1.length, List.take_length]
    rw [e2] at P
    exact Post.now (C := Rep K) P C (Rep.of (by unfold RepF; exact ⟨a, vs, rfl, h1, r1⟩))
  · exact P.elim
theorem je_sl {r : V → Option Int → Option Int → Hp → VK → Prop} {g : Sto → D → Option Int → Option Int → O D} {lo hi : Option Expr} {fl fu : PF} (hr : SlR X r) (ok : OkSl X.K r g) (he : JE X cl W a fa) (hl : JO X cl W lo fl) (hu : JO X cl W hi fu) : JE X cl W (.Subscript a (.Slice lo hi none p2) pos) (slF g fa fl fu) := (pe_slice hr he hl hu).imp fun σ H Q h => by
  obtain ⟨M, ι, δ, s, C, S, P⟩ := h
  refine ⟨M, ι, δ, s, C, S, Post.mono (Post.bind (Rep X.K) P) fun x H1 m => ?_⟩
  obtain ⟨M1, ι1, d, s1, t1, C1, r1, P1⟩ := m.ex
  refine ⟨M1, ι1, δ, s1, C1, S.step t1, Post.mono (Post.bind CO P1) fun l H2 m => ?_⟩
  obtain ⟨M2, ι2, _, s2, t2, C2, rfl, P2⟩ := m.ex
  refine ⟨M2, ι2, δ, s2, C2, (S.step t1).step t2, Post.mono (Post.bind CO P2) fun l' H3 m => ?_⟩
  obtain ⟨M3, ι3, _, s3, t3, C3, rfl, P3⟩ := m.ex
  exact ok _ M3 ι3 s3 H3 d x _ _ Q C3 ((r1.step t2).step t3) P3
/-! ### (*xs, y) -/
def starF (fa : EF) (fr : AF) : AF := fun δ s => (fa δ s).bind fun x s1 => match view s1 x with
  | .lst ds => (fr δ s1).bind fun xs s2 => .val (ds ++ xs) s2
  | .tup ds => (fr δ s1).bind fun xs s2 => .val (ds ++ xs) s2
  | _ => .stuck
theorem ja_star {es : List Expr} {p : Pos} (he : JE X cl W e fa) (hr : JA X cl W es fr) (hs : starEach (.Starred e p :: es) X.env = (true, eval e X.env) :: starEach es X.env := by rfl) : JA X cl W (.Starred e p :: es) (starF fa fr) := (StX.pa_star he hr hs).imp fun σ H Q h => by
  obtain ⟨M, ι, δ, s, C, S, P⟩ := h
  refine ⟨M, ι, δ, s, C, S, Post.mono (Post.bind (Rep X.K) P) fun u H1 m => ?_⟩
  obtain ⟨M1, ι1, d, s1, t1, C1, r1, P1⟩ := m.ex
  have sd := C1.sees r1
  have fin : ∀ {ds : List D} {vs : List V}, RepL X.K M1 ds vs → Post X.K (Reps X.K) (wx cl W σ) M1 ι1 H1 ((fr δ s1).bind fun xs s2 => .val (ds ++ xs) s2) Q → rdA X.K cl W fr σ H1 fun ys H2 => Q (vs ++ ys) H2 := fun r P2 => by
    refine ⟨M1, ι1, δ, s1, C1, S.step t1, Post.mono (Post.bind (Reps X.K) P2) fun ys H2 m => ?_⟩
    obtain ⟨M2, ι2, xs, s2, t2, C2, r2, P3⟩ := m.ex
    exact Post.now (C := Reps X.K) P3 C2 ((Reps.of (r.step t2)).append r2)
  split at P1
  · rename_i ds e1
    rw [e1] at sd
    obtain ⟨a, vs, rfl, h1, r2⟩ := sd
    exact ⟨a, vs, rfl, .inr (SqL.of h1), fin r2 P1⟩
  · rename_i ds e1
    rw [e1] at sd
    obtain ⟨a, vs, rfl, h1, r2⟩ := sd.tup
    exact ⟨a, vs, rfl, .inl (Ex.t C1.sub h1.sq), fin r2 P1⟩
  · exact P1.elim
/-! ### constants of the module -/
theorem je_globI {x : Str} {i : Int} {pos : Pos} (hm : ∃ t, X.mg x = some (.int i t)) (hg : Gl X x) (hd : (x == ("__debug__" : Str)) = false := by decide) : JE X cl W (.Name x pos) (cF (.int i)) := by
  obtain ⟨t, hm⟩ := hm
  exact je_glob hg hm (show RelV (.int i) (.int i t) from ⟨t, rfl⟩) (fun _ _ => rf_int) hd
end
theorem un65 {k : Nat} {A : Around} (r : Room k A) : A.units + 65 < cLine := by have := r.un; omega
end Fl
set_option Elab.async false
set_option linter.all false
set_option maxRecDepth 100000
namespace Fl
open PySem PySem.Spec PyProof.Rows L2
/-! ### zip of three -/
def ItZ3 (K : PySem.W.Frag) (k1 k2 k3 : Kd) (xs ys zs : List V) : It :=
  ⟨fun i H => k1.src K H xs ∧ k2.src K H ys ∧ k3.src K H zs ∧ i < xs.length ∧ i < ys.length ∧ i < zs.length, fun i H v H' => ∃ T x y u, v = .ref T ∧ H T = none ∧ H' = upd H T (.tup [x, y, u]) ∧ xs[i]? = some x ∧ ys[i]? = some y ∧ zs[i]? = some u,
    fun i H => k1.src K H xs ∧ k2.src K H ys ∧ k3.src K H zs ∧ i = min (min xs.length ys.length) zs.length⟩
theorem turn_zipK3 {P : Program} {w : World} {K : PySem.W.Frag} {elts : List Expr} {kk : Nat} {tpos : Pos} {k1 k2 k3 : Kd} {xs ys zs : List V} {z TI TO i1 i2 i3 : Addr} (D : ZipSep3 z TI TO i1 i2 i3 (i1 :: k1.ads) (i2 :: k2.ads) (i3 :: k3.ads)) (n1 : ∀ a ∈ k1.ads, a ≠ i1) (n2 : ∀ a ∈ k2.ads, a ≠ i2) (n3 : ∀ a ∈ k3.ads, a ≠ i3) :
    Turn P w K (.Tuple elts kk tpos) (ItZ3 K k1 k2 k3 xs ys zs) [z, TI, TO, i1, i2, i3] z (fun i h => IsZip h z TI TO .none ∧ IsTupOf3 h TI (.ref i1) (.ref i2) (.ref i3) ∧ (∃ x y u, IsTupOf3 h TO x y u) ∧ k1.at i1 i h ∧ k2.at i2 i h ∧ k3.at i3 i h) where
  mem := by simp
  obj := fun i h st c hc => by
    obtain ⟨hz, hTI, ⟨x, y, u, hTO⟩, h1, h2, h3⟩ := st
    have e' : c = z ∨ c = TI ∨ c = TO ∨ c = i1 ∨ c = i2 ∨ c = i3 := by simpa using hc
    rcases e' with q | q | q | q | q | q
    · rw [q]; exact ⟨_, hz, fun v q => nomatch q⟩
    · rw [q]; exact ⟨_, hTI, fun v q => nomatch q⟩
    · rw [q]; exact ⟨_, hTO, fun v q => nomatch q⟩
    · rw [q]; exact Kd.ob h1
    · rw [q]; exact Kd.ob h2
    · rw [q]; exact Kd.ob h3
  keep := fun i h h' st k => by
    obtain ⟨hz, hTI, ⟨x, y, u, hTO⟩, h1, h2, h3⟩ := st
    exact ⟨k z (by simp) _ hz, k TI (by simp) _ hTI, ⟨x, y, u, k TO (by simp) _ hTO⟩, Kd.keep h1 fun o q => k i1 (by simp) o q, Kd.keep h2 fun o q => k i2 (by simp) o q, Kd.keep h3 fun o q => k i3 (by simp) o q⟩
  item := by
    intro X hP hw hK hc i pins s σ H E I hf st hg
    subst hP hw hK
    obtain ⟨hz, hTI, hTO, h1, h2, h3⟩ := st
    obtain ⟨q1, q2, q3, l1, l2, l3⟩ := hg
    have hh : X.A.in1.handled = none := by simp [I.ok.hd hc]
    obtain ⟨P1, T1, D1, t1, a1, b1⟩ := Kd.draws (A := X.A.in1) I q1 h1 n1 hh
    obtain ⟨P2, T2, D2, t2, a2, b2⟩ := Kd.draws (A := X.A.in1) I q2 h2 n2 hh
    obtain ⟨P3, T3, D3, t3, a3, b3⟩ := Kd.draws (A := X.A.in1) I q3 h3 n3 hh
    have W := GoesN.zip3 (elts := elts) (x1 := kk) (pos := tpos) D D1 D2 D3
    refine W.goes i s (fun u s2 => ∃ x H', Inv X pins σ H' s2 ∧ RelV x u ∧ (ItZ3 X.K k1 k2 k3 xs ys zs).yld i H x H' ∧ (IsZip s2.heap z TI TO .none ∧ IsTupOf3 s2.heap TI (.ref i1) (.ref i2) (.ref i3) ∧ (∃ x y u, IsTupOf3 s2.heap TO x y u) ∧ k1.at i1 (i + 1) s2.heap ∧ k2.at i2 (i + 1) s2.heap ∧ k3.at i3 (i + 1) s2.heap) ∧ ∀ b ∈ [z, TI, TO, i1, i2, i3], H' b = none) E (by omega) ⟨hz, hTI, hTO, t1, t2, t3⟩ fun v h' tk hY st' hk _ => ?_
    obtain ⟨T, x, y, u, rfl, hT, p1, p2, p3, hTup⟩ := hY
    obtain ⟨x', e1, r1⟩ := b1 _ _ p1
    obtain ⟨y', e2, r2⟩ := b2 _ _ p2
    obtain ⟨u', e3, r3⟩ := b3 _ _ p3
    have new : ObjOk X.prog X.w (upd H T (.tup [x', y', u'])) h' T (.tup [x', y', u']) :=
      ⟨by show 3 ≤ sizeLine; decide, [x, y, u], .cons r1 (.cons r2 (.cons r3 .nil)), by obtain ⟨o, h1, h2, n, h3⟩ := hTup; exact ⟨o, h1, h2, n, h3⟩⟩
    have I1 : Inv X pins σ (upd H T (.tup [x', y', u'])) { s with heap := h', toks := tk } :=
      I.turnedNew (ch := [z, TI, TO, i1, i2, i3]) (fun c o hb q => hk c o (fun q' => hb (by simp at q' ⊢; rcases q' with q | q | q | q | q <;> simp [q])) q) hf hT new
    refine ⟨.ref T, _, I1, rfl, ⟨T, x', y', u', rfl, I.hok.fresh hT, rfl, e1, e2, e3⟩, ⟨st'.1, st'.2.1, st'.2.2.1, a1 _ _ st'.2.2.2.1, a2 _ _ st'.2.2.2.2.1, a3 _ _ st'.2.2.2.2.2⟩, fun c hcm => ?_⟩
    have hlt : c < s.heap.objs.size := by
      have e' : c = z ∨ c = TI ∨ c = TO ∨ c = i1 ∨ c = i2 ∨ c = i3 := by simpa using hcm
      obtain ⟨u1, u2, u3, hTO⟩ := hTO
      rcases e' with q | q | q | q | q | q
      · rw [q]; exact Heap.lt_size hz
      · rw [q]; exact Heap.lt_size hTI
      · rw [q]; exact Heap.lt_size hTO
      · rw [q]; obtain ⟨_, e, _⟩ := Kd.ob h1; exact Heap.lt_size e
      · rw [q]; obtain ⟨_, e, _⟩ := Kd.ob h2; exact Heap.lt_size e
      · rw [q]; obtain ⟨_, e, _⟩ := Kd.ob h3; exact Heap.lt_size e
    rw [upd_ne (Nat.ne_of_lt (Nat.lt_of_lt_of_le hlt hT))]
    exact (hf c hcm).1
  done := by
    intro X hP hw hK hc i pins s σ H E I hf st hg
    subst hP hw hK
    obtain ⟨hz, hTI, hTO, h1, h2, h3⟩ := st
    obtain ⟨q1, q2, q3, l⟩ := hg
    subst l
    have hh : X.A.in1.handled = none := by simp [I.ok.hd hc]
    obtain ⟨P1, T1, D1, t1, a1, b1⟩ := Kd.draws (A := X.A.in1) I q1 h1 n1 hh
    obtain ⟨P2, T2, D2, t2, a2, b2⟩ := Kd.draws (A := X.A.in1) I q2 h2 n2 hh
    obtain ⟨P3, T3, D3, t3, a3, b3⟩ := Kd.draws (A := X.A.in1) I q3 h3 n3 hh
    have W := GoesN.zip3 (elts := elts) (x1 := kk) (pos := tpos) D D1 D2 D3
    exact W.stops s (fun s2 => Inv X pins σ H s2) E ⟨hz, hTI, hTO, t1, t2, t3⟩ fun h' tk hk _ => I.turnedL (ch := [z, TI, TO, i1, i2, i3]) (fun c o hb q => hk c o (fun q' => hb (by simp at q' ⊢; rcases q' with q | q | q | q | q <;> simp [q])) q) hf
  self := fun A i s Q E st h => wpAny_pyIter_zip st.1 h
def iZipK3 (K : PySem.W.Frag) (ta : TA) : TI := fun σ H R => ta σ H fun vs H1 => ∃ (c1 c2 c3 : Cd) (xs ys zs : List V), vs = [c1.v, c2.v, c3.v] ∧ (∀ t, (c1.kd t).src K H1 xs) ∧ (∀ t, (c2.kd t).src K H1 ys) ∧ (∀ t, (c3.kd t).src K H1 zs) ∧ ∀ t1 t2 t3, R (ItZ3 K (c1.kd t1) (c2.kd t2) (c3.kd t3) xs ys zs) H1
theorem pi_zipK3 {X : Cx} {e e2 e3 : Expr} {ta : TA} {p pos tpos : Pos} {elts : List Expr} {kk : Nat} (hg : Gl X "zip") (hm : X.mg "zip" = none) (ha : PA X [e, e2, e3] ta)
    (hs : starEach [e, e2, e3] X.env = (false, eval e X.env) :: starEach [e2, e3] X.env := by rfl) (hpl : (backTo pos (starEach [e2, e3] X.env)).any (·.1) = false := by rfl) :
    PI X (.Tuple elts kk tpos) (.Call (.Name "zip" p) [e, e2, e3] [] pos) (iZipK3 X.K ta) := by
  refine ⟨fun pins s σ H R I h => ?_⟩
  refine Call_ (ld_blt I hg hm PyProof.Rows.boot_zip (PyProof.Rows.callWith_type1 (thn (ha.run pos pins s σ H _ I h) fun us s1 ⟨vs, H1, I1, r1, q1⟩ => ?_) hs hpl))
  obtain ⟨c1, c2, c3, xs, ys, zs, ex, k1, k2, k3, q⟩ := q1
  subst ex
  cases r1 with
  | cons r rr =>
    cases rr with
    | cons r' rr =>
      cases rr with
      | cons r'' rr =>
        cases rr
        obtain ⟨t1, o1, B1, _, b1, p1, a1, l1⟩ := Cd.begins I1 r k1
        obtain ⟨t2, o2, B2, _, b2, p2, a2, l2⟩ := Cd.begins I1 r' k2
        obtain ⟨t3, o3, B3, _, b3, p3, a3, l3⟩ := Cd.begins I1 r'' k3
        refine zip_begins3 b1 b2 b3 p1 p2 p3 fun h' hz hTI hTO g1 g2 g3 hsz hk => wpAny_pyIter_zip hz ?_
        have I2 : Inv X pins σ H1 { s1 with heap := h' } := I1.kept (t' := s1.toks) hk
        have fresh6 : ∀ c, c ∈ [s1.heap.objs.size + 5, s1.heap.objs.size + 3, s1.heap.objs.size + 4, s1.heap.objs.size, s1.heap.objs.size + 1, s1.heap.objs.size + 2] → FpOk X pins H1 c := fun c hcm => by
          have e' : c = s1.heap.objs.size + 5 ∨ c = s1.heap.objs.size + 3 ∨ c = s1.heap.objs.size + 4 ∨ c = s1.heap.objs.size ∨ c = s1.heap.objs.size + 1 ∨ c = s1.heap.objs.size + 2 := by simpa using hcm
          have hle : s1.heap.objs.size ≤ c := by
            rcases e' with z | z | z | z | z | z
            · rw [z]; exact Nat.le_add_right _ _
            · rw [z]; exact Nat.le_add_right _ _
            · rw [z]; exact Nat.le_add_right _ _
            · rw [z]; exact Nat.le_refl _
            · rw [z]; exact Nat.le_add_right _ _
            · rw [z]; exact Nat.le_add_right _ _
          exact I1.fpOk hle (I1.hok.fresh hle)
        refine ⟨s1.heap.objs.size + 5, [s1.heap.objs.size + 5, s1.heap.objs.size + 3, s1.heap.objs.size + 4, s1.heap.objs.size, s1.heap.objs.size + 1, s1.heap.objs.size + 2], _, _, H1, rfl, I2, turn_zipK3 (zip_sep3 l1 l2 l3) (fun a ha => Nat.ne_of_lt (l1 a ha)) (fun a ha => Nat.ne_of_lt (Nat.lt_succ_of_lt (l2 a ha))) (fun a ha => Nat.ne_of_lt (Nat.lt_succ_of_lt (Nat.lt_succ_of_lt (l3 a ha)))), ⟨hz, hTI, ⟨_, _, _, hTO⟩, a1 _ _ g1, a2 _ _ g2, a3 _ _ g3⟩, fresh6, q t1 t2 t3⟩
def pairs3 (xs ys zs : List D) : List D := List.zipWith (fun p c => .tup [p.1, p.2, c]) (List.zip xs ys) zs
theorem itOk_zip3 {K : PySem.W.Frag} {M : Hp} {c1 c2 c3 : Cd} {t1 t2 t3 : Tok} {xs ys zs : List V} {ds es fs : List D} (r1 : RepL K M ds xs) (r2 : RepL K M es ys) (r3 : RepL K M fs zs) (s1 : ∀ H, Ex M H → ∀ t, (c1.kd t).src K H xs) (s2 : ∀ H, Ex M H → ∀ t, (c2.kd t).src K H ys) (s3 : ∀ H, Ex M H → ∀ t, (c3.kd t).src K H zs) : ItOk K M (ItZ3 K (c1.kd t1) (c2.kd t2) (c3.kd t3) xs ys zs) (pairs3 ds es fs) := by
  intro i M1 ι1 s H1 e C
  have e1 : Ex M H1 := Ex.trans e C.sub
  have hl : (pairs3 ds es fs).length = min (min xs.length ys.length) zs.length := by rw [r1.length, r2.length, r3.length]; simp [pairs3]
  constructor
  · intro d hd
    have hi : i < min (min xs.length ys.length) zs.length := by rw [← hl]; exact (List.getElem?_eq_some_iff.mp hd).1
    refine ⟨⟨s1 _ e1 _, s2 _ e1 _, s3 _ e1 _, by omega, by omega, by omega⟩, fun v' H2 y => ?_⟩
    obtain ⟨T, x, y, u, rfl, hT, rfl, hx, hy, hu⟩ := y
    obtain ⟨dx, h1, h2⟩ := r1.getV hx
    obtain ⟨dy, h3, h4⟩ := r2.getV hy
    obtain ⟨du, h5, h6⟩ := r3.getV hu
    have hd' : d = .tup [dx, dy, du] := by
      unfold pairs3 at hd
      rw [List.getElem?_zipWith, (List.getElem?_zip_eq_some (z := (dx, dy))).mpr ⟨h1, h3⟩, h5] at hd
      exact (Option.some.inj hd).symm
    subst hd'
    obtain ⟨C2, t2⟩ := C.laid (o := .tup [x, y, u]) hT
    exact ⟨_, t2, C2, Rep.of (by unfold RepF; exact ⟨T, _, rfl, .inl upd_same, .cons ((h2.mono e).mono t2.mm) (.cons ((h4.mono e).mono t2.mm) (.cons ((h6.mono e).mono t2.mm) .nil))⟩)⟩
  · intro hi
    exact ⟨s1 _ e1 _, s2 _ e1 _, s3 _ e1 _, by rw [hi, hl]⟩
def zip3F (fr : AF) : AF := fun δ s => (fr δ s).bind fun ds s1 => match ds with
  | [x, y, z] => match srcD x, srcD y, srcD z with
    | some xs, some ys, some zs => .val (pairs3 xs ys zs) s1
    | _, _, _ => .stuck
  | _ => .stuck
section
variable {X : Cx} {cl : Nat → Value} {W : WX} {e a b c : Expr} {fr : AF} {pos : Pos}
theorem ji_zip3 {p tpos : Pos} {elts : List Expr} {kk : Nat} (hg : Gl X "zip") (hm : X.mg "zip" = none) (ha : JA X cl W [a, b, c] fr) (hs : starEach [a, b, c] X.env = (false, eval a X.env) :: starEach [b, c] X.env := by rfl) (hpl : (backTo pos (starEach [b, c] X.env)).any (·.1) = false := by rfl) :
    JI X cl W (.Tuple elts kk tpos) (.Call (.Name "zip" p) [a, b, c] [] pos) (zip3F fr) := (pi_zipK3 hg hm ha hs hpl).imp fun σ H R h => by
  obtain ⟨M, ι, δ, s, C, S, P⟩ := h
  refine ⟨M, ι, δ, s, C, S, Post.mono (Post.bind (Reps X.K) P) fun u H1 m => ?_⟩
  obtain ⟨M1, ι1, x, s1, t1, C1, r1, P1⟩ := m.ex
  split at P1
  · split at P1
    · rename_i h1 h2 h3
      obtain ⟨u, w, v, rfl, r2, r3, r4⟩ := r1.three
      obtain ⟨c1, vs, rfl, q1, z1⟩ := src_ok r2 h1
      obtain ⟨c2, us, rfl, q2, z2⟩ := src_ok r3 h2
      obtain ⟨c3, ws, rfl, q3, z3⟩ := src_ok r4 h3
      exact ⟨c1, c2, c3, vs, us, ws, rfl, z1 _ C1.sub, z2 _ C1.sub, z3 _ C1.sub, fun t1 t2 t3 => Post.now (C := CI X.K) P1 C1 (itOk_zip3 q1 q2 q3 z1 z2 z3)⟩
    · exact P1.elim
  · exact P1.elim
end
end Fl
set_option Elab.async false
set_option linter.all false
set_option maxRecDepth 100000
namespace Fl
open PySem PySem.Spec PyProof.Rows L2
/-! ### loops over a list of one's own that stays as it is -/
open Classical in
noncomputable def loopG (k : Nat) (xs0 : List D) (g : GF) (body : SF) : List D → Sl → Sto → OS
  | [], δ, s => if s[k]? = some (.lst xs0) then .nx δ s else .stuck
  | x :: xs, δ, s => if s[k]? = some (.lst xs0) then (noX (g x δ s)).go δ fun δ1 s1 => match body δ1 s1 with
      | .nx δ2 s2 => loopG k xs0 g body xs δ2 s2
      | .ct δ2 s2 => loopG k xs0 g body xs δ2 s2
      | .bk δ2 s2 => .nx δ2 s2
      | o => o
    else .stuck
noncomputable def forOS (fa : EF) (g : GF) (body : SF) : SF := fun δ s => (fa δ s).go δ fun d s1 => match d with
  | .ob k => match s1[k]? with
    | some (.lst xs) => loopG k xs g body xs δ s1
    | _ => .stuck
  | _ => .stuck
section
variable {K : PySem.W.Frag} {cl : Nat → Value} {W : WX}
theorem own_it {M : Hp} {ι : List Addr} {s : Sto} {H : Hp} {k : Nat} {a : Addr} {xs : List D} (C : Conc K M ι s H) (hk : ι[k]? = some a) (e : s[k]? = some (.lst xs)) (i : Nat) :
    (∀ d, xs[i]? = some d → (Itl K a).go i H ∧ ∀ v H2, (Itl K a).yld i H v H2 → H2 = H ∧ Rep K M ι d v) ∧ (xs.length ≤ i → (Itl K a).stop i H) := by
  obtain ⟨_, vs, h1, r⟩ := C.obs k a _ hk e
  constructor
  · intro d hd
    obtain ⟨v, h2, h3⟩ := r.get hd
    refine ⟨⟨vs, v, SqL.of h1, h2⟩, fun v' H2 y => ?_⟩
    obtain ⟨rfl, y⟩ := y
    have := y vs (SqL.of h1)
    rw [h2] at this; cases this
    exact ⟨rfl, h3⟩
  · intro hi
    exact ⟨vs, SqL.of h1, by rw [r.length]; exact hi⟩
theorem rd_forO {fa : EF} {g : GF} {body : SF} (D : Ends) (σ : L2.St) (H : Hp) (h : rdS K cl W (forOS fa g body) D σ H) : tFor (iList K (rdE K cl W fa)) (rdG K g) (rdS K cl W body) D σ H := by
  obtain ⟨M, ι, δ, s, C, S, P⟩ := rd_go (Rep K) h
  refine ⟨M, ι, δ, s, C, S, Post.mono P fun u H1 h => ?_⟩
  obtain ⟨M1, ι1, δ1, s1, d, C1, S1, r1, P1⟩ := h
  split at P1
  · rename_i k
    split at P1
    · rename_i xs e0
      obtain ⟨a, rfl, hk⟩ := r1
      obtain ⟨_, vs0, hv0, _⟩ := C1.obs k a _ hk e0
      refine ⟨a, rfl, ⟨vs0, SqL.of hv0⟩, fun i m σ H => m = xs.length - i ∧ i ≤ xs.length ∧ ∃ M' ι' δ' s', Ex M1 M' ∧ ι'[k]? = some a ∧ Conc K M' ι' s' H ∧ RepS K M' ι' δ' σ ∧ PostS K cl W D M' ι' H (loopG k xs g body (xs.drop i) δ' s'), ⟨xs.length, by simp, Nat.zero_le _, M1, ι1, δ1, s1, Ex.refl _, hk, C1, S1, P1⟩, ?_⟩
      rintro i m σ H ⟨rfl, hi, M', ι', δ', s', e', hk', C', S', P'⟩
      by_cases hlt : i < xs.length
      · have hx : xs[i]? = some xs[i] := List.getElem?_eq_getElem hlt
        rw [List.drop_eq_getElem_cons hlt] at P'
        unfold loopG at P'
        by_cases hg : s'[k]? = some (.lst xs)
        · rw [if_pos hg] at P'
          obtain ⟨go, yl⟩ := (own_it C' hk' hg i).1 _ hx
          refine .inr ⟨go, fun σ H => ∃ M2 ι2 δ2 s2, Ex M1 M2 ∧ ι2[k]? = some a ∧ Conc K M2 ι2 s2 H ∧ RepS K M2 ι2 δ2 σ ∧ PostS K cl W D M2 ι2 H (loopG k xs g body (xs.drop (i + 1)) δ2 s2), fun σ' H' w => ⟨xs.length - (i + 1), by omega, rfl, hlt, w⟩, fun v H2 hy => ?_⟩
          obtain ⟨rfl, r2⟩ := yl v H2 hy
          refine ⟨M', ι', δ', s', xs[i], C', S', r2, Post.noX (Post.mono (PostS.tg P' noX_ne) fun σ3 H3 h => ?_)⟩
          obtain ⟨M3, ι3, δ3, s3, t3, C3, S3, P3⟩ := h
          refine ⟨M3, ι3, δ3, s3, C3, S3, ?_⟩
          have e3 : Ex M1 M3 := Ex.trans e' t3.mm
          have k3 : ι3[k]? = some a := t3.ii _ _ hk'
          revert P3
          cases body δ3 s3 with
          | stuck => exact fun P3 => P3
          | nx δ4 s4 => exact fun P3 M4 ι4 H4 σ4 t4 C4 S4 => ⟨M4, ι4, δ4, s4, Ex.trans e3 t4.mm, t4.ii _ _ k3, C4, S4, PostS.step P3 t4⟩
          | ct δ4 s4 => exact fun P3 M4 ι4 H4 σ4 t4 C4 S4 => ⟨M4, ι4, δ4, s4, Ex.trans e3 t4.mm, t4.ii _ _ k3, C4, S4, PostS.step P3 t4⟩
          | bk δ4 s4 => exact fun P3 => P3
          | rt d s4 => exact fun P3 => P3
          | exc c δ4 s4 => exact fun P3 => P3
        · rw [if_neg hg] at P'; exact P'.elim
      · have e : i = xs.length := by omega
        rw [e, List.drop_length] at P'
        unfold loopG at P'
        by_cases hg : s'[k]? = some (.lst xs)
        · rw [if_pos hg] at P'
          refine .inl ⟨(own_it C' hk' hg i).2 (by omega), ?_⟩
          exact P' M' ι' H σ Step.refl C' S'
        · rw [if_neg hg] at P'; exact P'.elim
    · exact P1.elim
  · exact P1.elim
end
section
variable {X : Cx} {cl : Nat → Value} {W : WX} {e : Expr} {fa : EF} {ff : SF} {pos : Pos}
theorem js_forO {tg iter : Expr} {body : List Stmt} {g : GF} (hp : PassesOwn (model X.prog X.w) X.A X.env X.xe) (hc : X.calm = true) (hi : JE X cl W iter fa) (hg : JG X tg g) (hb : JSs X cl W body ff)
    (hs : ∀ x, foldedSetIterable iter X.env x = pure x := by intro _; rfl) : JS X cl W (.For tg iter body [] pos) (forOS fa g ff) := (ps_for hp hc (pi_list hi) hg hb hs).imp fun D σ H h => rd_forO D σ H h
end
/-! ### list comprehensions over one -/
open Classical in
noncomputable def loopCG (k : Nat) (xs0 : List D) (g : GF) (t : BF) (e : EF) (δ : Sl) : List D → List D → Sto → O (List D)
  | [], acc, s => if s[k]? = some (.lst xs0) then .val acc s else .stuck
  | x :: xs, acc, s => if s[k]? = some (.lst xs0) then (noX (g x δ s)).bind fun δ1 s1 => (quiet (t δ1 s1)).bind fun b s2 =>
      if b = true then (quiet (e δ1 s2)).bind fun d s3 => if flat d = true ∧ acc.length < 16000000 then loopCG k xs0 g t e δ xs (acc ++ [d]) s3 else .stuck
      else loopCG k xs0 g t e δ xs acc s2
    else .stuck
noncomputable def compOw (fa : EF) (vs : List Nat) (g : GF) (t : BF) (e : EF) : EF := fun δ s => (fa δ s).bind fun d s1 => match d with
  | .ob k => match s1[k]? with
    | some (.lst xs) => (loopCG k xs g t e (wipeD δ vs) xs [] s1).bind fun ds s2 => .val (.lst ds) s2
    | _ => .stuck
  | _ => .stuck
theorem rd_lcG {K : PySem.W.Frag} {cl : Nat → Value} {W : WX} {fa : EF} {vs : List Nat} {g : GF} {t : BF} {f : EF} (σ : L2.St) (H : Hp) (Q : VK) (h : rdE K cl W (compOw fa vs g t f) σ H Q) : tLc (iList K (rdE K cl W fa)) (rdGC K vs g) (rdT K cl W0 t) (rdE K cl W0 f) vs σ H Q := by
  obtain ⟨M, ι, δ, s, C, S, P⟩ := h
  refine ⟨M, ι, δ, s, C, S, Post.mono (Post.bind (Rep K) P) fun u H1 m => ?_⟩
  obtain ⟨M1, ι1, d, s1, t1, C1, r1, P1⟩ := m.ex
  split at P1
  · rename_i k
    split at P1
    · rename_i xs e0
      obtain ⟨a, rfl, hk⟩ := r1
      obtain ⟨_, vs0, hv0, _⟩ := C1.obs k a _ hk e0
      have S1 := S.step t1
      refine ⟨a, rfl, ⟨vs0, SqL.of hv0⟩, fun p hp => ⟨fun i m H => m = xs.length - i ∧ i ≤ xs.length ∧ ∃ M' ι' s' acc, Way K M1 ι1 H1 p acc M' ι' s' H ∧ (∀ d ∈ acc, flat d = true) ∧ Post K (Rep K) (wx cl W σ) M1 ι1 H1 ((loopCG k xs g t f (wipeD δ vs) (xs.drop i) acc s').bind fun ds s2 => .val (.lst ds) s2) Q, ⟨xs.length, by simp, Nat.zero_le _, M1, ι1, s1, [], Way.start C1 hp, (fun _ z => nomatch z), P1⟩, ?_⟩⟩
      rintro i m H ⟨rfl, hi, M', ι', s', acc, w, fl, P'⟩
      have hk' : ι'[k]? = some a := w.st.ii _ _ hk
      by_cases hlt : i < xs.length
      · have hx : xs[i]? = some xs[i] := List.getElem?_eq_getElem hlt
        rw [List.drop_eq_getElem_cons hlt] at P'
        unfold loopCG at P'
        by_cases hg : s'[k]? = some (.lst xs)
        · rw [if_pos hg] at P'
          obtain ⟨go, yl⟩ := (own_it w.C hk' hg i).1 _ hx
          refine .inr ⟨go, fun H => ∃ M2 ι2 s2 acc2, Way K M1 ι1 H1 p acc2 M2 ι2 s2 H ∧ (∀ d ∈ acc2, flat d = true) ∧ Post K (Rep K) (wx cl W σ) M1 ι1 H1 ((loopCG k xs g t f (wipeD δ vs) (xs.drop (i + 1)) acc2 s2).bind fun ds s2 => .val (.lst ds) s2) Q, fun H' z => ⟨xs.length - (i + 1), by omega, rfl, hlt, z⟩, fun v H2 hy => ?_⟩
          obtain ⟨rfl, r2⟩ := yl v H2 hy
          refine ⟨M', ι', wipeD δ vs, s', xs[i], w.C, (S1.step w.st).wipe vs, r2, ?_⟩
          revert P'
          cases g xs[i] (wipeD δ vs) s' with
          | stuck => exact fun P' => P'
          | exc c s'' => exact fun P' => P'.elim
          | val δ3 s3 =>
            intro P' M3 ι3 H3 σ3 t3 C3 S3 hw
            have w3 := w.go t3 C3
            refine ⟨hw.trans wipe_wipe, M3, ι3, δ3, s3, C3, S3, ?_⟩
            have P3 : Post K (Rep K) (wx cl W σ) M1 ι1 H1 (((quiet (t δ3 s3)).bind fun b s2 => if b = true then (quiet (f δ3 s2)).bind fun d s3 => if flat d = true ∧ acc.length < 16000000 then loopCG k xs g t f (wipeD δ vs) (xs.drop (i + 1)) (acc ++ [d]) s3 else .stuck else loopCG k xs g t f (wipeD δ vs) (xs.drop (i + 1)) acc s2).bind fun ds s2 => .val (.lst ds) s2) Q := P'
            revert P3
            cases t δ3 s3 with
            | stuck => exact fun P3 => P3
            | exc c s'' => exact fun P3 => P3.elim
            | val b s4 =>
              intro P3 M4 ι4 H4 b' t4 C4 hb
              subst hb
              have w4 := w3.go t4 C4
              cases b' with
              | false => exact iteF ⟨M4, ι4, s4, acc, w4, fl, P3⟩
              | true =>
                refine iteT ⟨M4, ι4, δ3, s4, C4, S3.step t4, ?_⟩
                have P4 : Post K (Rep K) (wx cl W σ) M1 ι1 H1 (((quiet (f δ3 s4)).bind fun d s3 => if flat d = true ∧ acc.length < 16000000 then loopCG k xs g t f (wipeD δ vs) (xs.drop (i + 1)) (acc ++ [d]) s3 else .stuck).bind fun ds s2 => .val (.lst ds) s2) Q := P3
                revert P4
                cases f δ3 s4 with
                | stuck => exact fun P4 => P4
                | exc c s'' => exact fun P4 => P4.elim
                | val d s5 =>
                  intro P4 M5 ι5 H5 y t5 C5 r5
                  have w5 := w4.go t5 C5
                  have P5 : Post K (Rep K) (wx cl W σ) M1 ι1 H1 ((if flat d = true ∧ acc.length < 16000000 then loopCG k xs g t f (wipeD δ vs) (xs.drop (i + 1)) (acc ++ [d]) s5 else .stuck).bind fun ds s2 => .val (.lst ds) s2) Q := P4
                  by_cases hc : flat d = true ∧ acc.length < 16000000
                  · rw [if_pos hc] at P5
                    obtain ⟨us, h1, h2⟩ := w5.at_
                    exact ⟨us, h1, by rw [h2.length]; exact Nat.lt_of_lt_of_le hc.2 (by decide), M5, ι5, s5, acc ++ [d], w5.put h1 h2 r5, (fun d' z => (List.mem_append.mp z).elim (fl d') fun z => by rw [List.mem_singleton.mp z]; exact hc.1), P5⟩
                  · rw [if_neg hc] at P5
                    exact P5.elim
        · rw [if_neg hg] at P'; exact P'.elim
      · have e : i = xs.length := by omega
        rw [e, List.drop_length] at P'
        unfold loopCG at P'
        by_cases hg : s'[k]? = some (.lst xs)
        · rw [if_pos hg] at P'
          exact .inl ⟨(own_it w.C hk' hg i).2 (by omega), Way.froz w fl P'⟩
        · rw [if_neg hg] at P'; exact P'.elim
    · exact P1.elim
  · exact P1.elim
section
variable {X : Cx} {cl : Nat → Value} {W : WX} {fa : EF} {pos : Pos}
theorem je_lcG {elt tg iter : Expr} {ifs : List Expr} {scope : Scope} {own : List (Str × Nat)} {vs : List Nat} {g : GF} {t : BF} {f : EF} (hc : X.calm = true) (hN : X.N.Nodup) (hi : JE X cl W iter fa) (ok : BlkOk X.N X.env.scope scope own)
    (hg : ∀ (s : Shared) (H : Hp) (C : Addr) (cls : List (Str × Addr)) (fp : List Addr), JC (X.blk s H scope (compEnvC scope cls C X.env) fp) vs tg g) (ht : ∀ (s : Shared) (H : Hp) (C : Addr) (cls : List (Str × Addr)) (fp : List Addr), JTs (X.blk s H scope (compEnvC scope cls C X.env) fp) cl W0 ifs t)
    (he : ∀ (s : Shared) (H : Hp) (C : Addr) (cls : List (Str × Addr)) (fp : List Addr), JE (X.blk s H scope (compEnvC scope cls C X.env) fp) cl W0 elt f) (hvs : own.map (·.2) = vs := by rfl) (hs : ∀ x, foldedSetIterable iter X.env x = pure x := by intro _; rfl) :
    JE X cl W (.ListComp elt [⟨tg, iter, ifs, 0⟩] scope pos) (compOw fa vs g t f) := by
  subst hvs
  exact (pe_lc hc hN (pi_list hi) ok hg ht he hs).imp rd_lcG
end
end Fl
set_option Elab.async false
set_option linter.all false
set_option maxRecDepth 100000
namespace Fl
open PySem PySem.Spec PyProof.Rows L2
/-! ### a op b op c op d, as a test -/
def tTest3 (r r' r'' : R2) (ta tb tc td : TE) : TT := fun σ H Q => ta σ H fun x H1 => tb σ H1 fun y H2 => r x y H2 fun z H3 => ∃ k, z = .bl k ∧
  (if k = true then tc σ H3 fun u H4 => r' y u H4 fun z' H5 => ∃ k', z' = .bl k' ∧ (if k' = true then td σ H5 fun v H6 => r'' u v H6 fun z'' H7 => ∃ k'', z'' = .bl k'' ∧ Q k'' H7 else Q false H5) else Q false H3)
section
variable {X : Cx} {a b c d : Expr} {ta tb tc td : TE} {pos : Pos}
theorem pt_chain3 {op op' op'' : CmpOp} {r r' r'' : R2} (ho : OpR X (compareOp op) r) (ho' : OpR X (compareOp op') r') (ho'' : OpR X (compareOp op'') r'') (ha : PE X a ta) (hb : PE X b tb) (hc : PE X c tc) (hd : PE X d td)
    (hm : lastMarks [op, op', op''] [b, c, d] = false := by with_unfolding_all rfl) : PT X (.Compare a [op, op', op''] [b, c, d] pos) (tTest3 r r' r'' ta tb tc td) := by
  refine ⟨fun pins s σ H Q I h => ?_⟩
  refine isTrue_chain (thn (ha.run pins s σ H _ I h) fun v s1 ⟨x, H1, I1, r1, q1⟩ => test_link (thn (hb.run pins s1 σ H1 _ I1 q1) fun u s2 ⟨y, H2, I2, r2, q2⟩ =>
    thn (ho pins s2 σ H2 x y v u _ I2 r1 r2 q2) fun d s3 ⟨z, H3, I3, r3, k, e, q3⟩ => ?_)) hm
  subst e
  cases r3
  refine wpAny_truthy_bool ?_
  cases k with
  | false => exact ite_ff ⟨H3, I3, q3⟩
  | true =>
    refine ite_tt (test_link (thn (hc.run pins s3 σ H3 _ I3 q3) fun u' s4 ⟨y', H4, I4, r4, q4⟩ => thn (ho' pins s4 σ H4 y y' u u' _ I4 r2 r4 q4) fun d s5 ⟨z', H5, I5, r5, k', e', q5⟩ => ?_))
    subst e'
    cases r5
    refine wpAny_truthy_bool ?_
    cases k' with
    | false => exact ite_ff ⟨H5, I5, q5⟩
    | true =>
      refine ite_tt (test_last (thn (hd.run pins s5 σ H5 _ I5 q5) fun w' s6 ⟨z2, H6, I6, r6, q6⟩ => thn (ho'' pins s6 σ H6 y' z2 u' w' _ I6 r4 r6 q6) fun d' s7 ⟨z3, H7, I7, r7, k2, e2, q7⟩ => ?_))
      subst e2
      cases r7
      exact wpAny_truthy_bool ⟨H7, I7, q7⟩
variable {cl : Nat → Value} {W : WX} {fa fb fc fd : EF}
def chain3T (g g' g'' : Op2) (fa fb fc fd : EF) : BF := fun δ s => (fa δ s).bind fun x s1 => (fb δ s1).bind fun y s2 => (g s2 x y).bind fun z s3 => match z with
  | .bl true => (fc δ s3).bind fun u s4 => (g' s4 y u).bind fun z' s5 => match z' with
    | .bl true => (fd δ s5).bind fun v s6 => (g'' s6 u v).bind fun z'' s7 => match z'' with
      | .bl b => .val b s7
      | _ => .stuck
    | .bl false => .val false s5
    | _ => .stuck
  | .bl false => .val false s3
  | _ => .stuck
theorem jt_chain3 {op op' op'' : CmpOp} {r r' r'' : R2} {g g' g'' : Op2} (ho : OpR X (compareOp op) r) (ho' : OpR X (compareOp op') r') (ho'' : OpR X (compareOp op'') r'') (ok : Ok2 X.K r g) (ok' : Ok2 X.K r' g') (ok'' : Ok2 X.K r'' g'') (ha : JE X cl W a fa) (hb : JE X cl W b fb) (hc : JE X cl W c fc) (hd : JE X cl W d fd)
    (hm : lastMarks [op, op', op''] [b, c, d] = false := by with_unfolding_all rfl) : JT X cl W (.Compare a [op, op', op''] [b, c, d] pos) (chain3T g g' g'' fa fb fc fd) := (pt_chain3 ho ho' ho'' ha hb hc hd hm).imp fun σ H Q h => by
  obtain ⟨M, ι, δ, s, C, S, P⟩ := h
  refine ⟨M, ι, δ, s, C, S, Post.mono (Post.bind (Rep X.K) P) fun u1 H1 m => ?_⟩
  obtain ⟨M1, ι1, x, s1, t1, C1, r1, P1⟩ := m.ex
  have S1 := S.step t1
  refine ⟨M1, ι1, δ, s1, C1, S1, Post.mono (Post.bind (Rep X.K) P1) fun u2 H2 m => ?_⟩
  obtain ⟨M2, ι2, y, s2, t2, C2, r2, P2⟩ := m.ex
  have S2 := S1.step t2
  refine ok _ M2 ι2 s2 H2 x y u1 u2 _ C2 (r1.step t2) r2 (Post.mono (Post.bind (Rep X.K) P2) fun z H3 m => ?_)
  obtain ⟨M3, ι3, zd, s3, t3, C3, r3, P3⟩ := m.ex
  have S3 := S2.step t3
  cases zd with
  | bl k =>
    refine ⟨k, r3.bl, ?_⟩
    cases k with
    | false => exact iteF (Post.now (C := CB) P3 C3 rfl)
    | true =>
      refine iteT ⟨M3, ι3, δ, s3, C3, S3, Post.mono (Post.bind (Rep X.K) P3) fun u4 H4 m => ?_⟩
      obtain ⟨M4, ι4, w, s4, t4, C4, r4, P4⟩ := m.ex
      have S4 := S3.step t4
      refine ok' _ M4 ι4 s4 H4 y w u2 u4 _ C4 ((r2.step t3).step t4) r4 (Post.mono (Post.bind (Rep X.K) P4) fun z H5 m => ?_)
      obtain ⟨M5, ι5, zd, s5, t5, C5, r5, P5⟩ := m.ex
      have S5 := S4.step t5
      cases zd with
      | bl k =>
        refine ⟨k, r5.bl, ?_⟩
        cases k with
        | false => exact iteF (Post.now (C := CB) P5 C5 rfl)
        | true =>
          refine iteT ⟨M5, ι5, δ, s5, C5, S5, Post.mono (Post.bind (Rep X.K) P5) fun u6 H6 m => ?_⟩
          obtain ⟨M6, ι6, v, s6, t6, C6, r6, P6⟩ := m.ex
          refine ok'' _ M6 ι6 s6 H6 w v u4 u6 _ C6 ((r4.step t5).step t6) r6 (Post.mono (Post.bind (Rep X.K) P6) fun z H7 m => ?_)
          obtain ⟨M7, ι7, zd, s7, t7, C7, r7, P7⟩ := m.ex
          cases zd with
          | bl k => exact ⟨k, r7.bl, Post.now (C := CB) P7 C7 rfl⟩
          | _ => exact P7.elim
      | _ => exact P5.elim
  | _ => exact P3.elim
end
end Fl
set_option Elab.async false
set_option linter.all false
set_option maxRecDepth 100000
namespace FlSet
open PySem PySem.Spec PyProof.Rows L2
/-! sets of keys of one kind, with their order's table: set(list), sorted(set(list)) -/
structure Kn (P : Program) (w : World) (κ : Type) [DecidableEq κ] where
  knd : PySem.KeyKind P w κ
  dec : Value → κ
  hd : ∀ k v, knd.is k v = true → dec v = k
  sc : ∀ k v, knd.is k v = true → v.scannable = true
section
variable {P : Program} {w : World} {κ : Type} [DecidableEq κ] (D : Kn P w κ)
abbrev Kn.key (e : Int × Value) : κ := D.dec e.2
def Kn.keys (es : Array (Int × Value)) : List κ := es.toList.map D.key
/-- what the entries are -/
structure Ent (es : Array (Int × Value)) (ks : List κ) : Prop where
  good : ∀ e ∈ es.toList, D.knd.is (D.key e) e.2 = true ∧ e.1 = D.knd.hash (D.key e)
  nd : (D.keys es).Nodup
  mem : ∀ k, k ∈ D.keys es ↔ k ∈ ks
  le : es.size ≤ ks.length
def Led (w : World) (t : SetTable) : Prop := w.params.followText "set-order" = true ∨ t.led = true
structure Tab (w : World) (es : Array (Int × Value)) (t : SetTable) : Prop where
  fits : t.fits es.size = true
  ris : Ris t.place.toList
  led : Led w t
def SetG (h : Heap) (a : Addr) (ks : List κ) : Prop := ∃ o es ep t, h.get? a = some o ∧ o.ExactSet ∧ o.data = .set es ep t ∧ Ent D es ks ∧ Tab w es t
variable {D}
theorem Ent.elems {es : Array (Int × Value)} {ks : List κ} (x : Ent D es ks) : ElemsOf D.knd es.toList := fun e he =>
  ⟨⟨D.key e, (x.good e he).1, (x.good e he).2⟩, D.sc _ _ (x.good e he).1⟩
/-- few different keys -/
def Few {κ : Type} (ks : List κ) : Prop := ∃ U : List κ, U.length < scanBound ∧ ∀ k ∈ ks, k ∈ U
theorem Few.of_len {κ : Type} {ks : List κ} (h : ks.length < scanBound) : Few ks := ⟨ks, h, fun _ h => h⟩
theorem Few.sub {κ : Type} {ks ls : List κ} (h : Few ks) (s : ∀ k ∈ ls, k ∈ ks) : Few ls := let ⟨U, a, b⟩ := h; ⟨U, a, fun k hk => b k (s k hk)⟩
theorem Few.lt {κ : Type} [DecidableEq κ] {ks ls : List κ} (h : Few ks) (nd : ls.Nodup) (s : ∀ k ∈ ls, k ∈ ks) : ls.length < scanBound := by
  obtain ⟨U, a, b⟩ := h
  have : ls.length ≤ U.length := List.Nodup.length_le_of_subset nd (fun k hk => b k (s k hk))
  omega
theorem Ent.lt {es : Array (Int × Value)} {ks : List κ} (x : Ent D es ks) (h : Few ks) : es.size < scanBound := by
  have := h.lt x.nd (fun k hk => (x.mem k).mp hk)
  simpa [Kn.keys] using this
theorem SetG.at {h h' : Heap} {a : Addr} {ks : List κ} (R : SetG D h a ks) (k : ∀ o, h.get? a = some o → h'.get? a = some o) : SetG D h' a ks := by
  obtain ⟨o, es, ep, t, ho, r⟩ := R
  exact ⟨o, es, ep, t, k o ho, r⟩
theorem Ent.more {es es1 : Array (Int × Value)} {ks : List κ} {k : κ} {v : Value} (x : Ent D es ks) (hk : D.knd.is k v = true) (hn : k ∉ ks) (pm : es1.toList.Perm ((D.knd.hash k, v) :: es.toList)) : Ent D es1 (ks ++ [k]) := by
  have hv : D.key (D.knd.hash k, v) = k := D.hd k v hk
  have pk : (D.keys es1).Perm (k :: D.keys es) := by
    have q := pm.map D.key
    rw [List.map_cons, hv] at q; exact q
  refine ⟨fun e he => ?_, ?_, fun i => ?_, ?_⟩
  · rcases List.mem_cons.mp (pm.mem_iff.mp he) with z | z
    · rw [z, hv]; exact ⟨hk, rfl⟩
    · exact x.good e z
  · exact pk.nodup_iff.mpr (List.nodup_cons.mpr ⟨fun z => hn ((x.mem k).mp z), x.nd⟩)
  · rw [pk.mem_iff, List.mem_cons, x.mem, List.mem_append, List.mem_singleton]; exact Or.comm
  · have q := pm.length_eq
    rw [Array.length_toList, List.length_cons, Array.length_toList] at q
    have := x.le
    simp; omega
theorem Ent.perm {es es1 : Array (Int × Value)} {ks : List κ} (x : Ent D es ks) (pm : es1.toList.Perm es.toList) : Ent D es1 ks := by
  have pk : (D.keys es1).Perm (D.keys es) := pm.map D.key
  have q := pm.length_eq
  rw [Array.length_toList, Array.length_toList] at q
  exact ⟨fun e he => x.good e (pm.mem_iff.mp he), pk.nodup_iff.mpr x.nd, fun i => pk.mem_iff.trans (x.mem i), by have := x.le; omega⟩
theorem Ent.same {es : Array (Int × Value)} {ks : List κ} {k : κ} (x : Ent D es ks) (hn : k ∈ ks) : Ent D es (ks ++ [k]) :=
  ⟨x.good, x.nd, fun i => by rw [x.mem, List.mem_append, List.mem_singleton]; exact ⟨.inl, fun z => z.elim id fun e => e ▸ hn⟩, by have := x.le; simp; omega⟩
end
section
variable {P : Program} {w : World} {κ : Type} [DecidableEq κ] {D : Kn P w κ} {A : Around} {E : Value → Shared → Prop} {s : Shared} {a : Addr} {ks : List κ}
/-- an entry is stored, the table laid anew where it is too full -/
theorem sg_store {g : Bool → Sem Unit} (hg : ∀ (b : Bool) (s1 : Shared) (Q1 : Unit → Shared → Prop), Q1 () s1 → wpAny (model P w) A (g b) Q1 E s1) {o : Obj} {es es1 : Array (Int × Value)} {ep : Nat} {t t2 : SetTable}
    (ho : s.heap.get? a = some o) (hex : o.ExactSet) (hd : o.data = .set es ep t) (x : Ent D es1 ks) (hb : Few ks) (T : Tab w es1 t2) {was : Bool} {R : Option Bool → Shared → Prop}
    (hR : ∀ h', Heap.SameBut a s.heap h' → SetG D h' a ks → R (some true) { s with heap := h' }) :
    wpAny (model P w) A (do
      storeSet a es1 t2
      if (!was && t2.tooFull) = true then do
        g (relayAll t2 es1 (SetTable.grown es1.size)).2.2
        storeSet a (relayAll t2 es1 (SetTable.grown es1.size)).1 (relayAll t2 es1 (SetTable.grown es1.size)).2.1
        pure (some true)
      else pure (some true)) R E s := by
  have hb1 : es1.size < scanBound := x.lt hb
  refine wpAny_bind (wpAny_storeSet_of ho hd ?_ (fits_of_scanBound hb1))
  have o1 := store_at (es' := es1) (t' := t2) ho hd
  have same1 := Heap.SameBut.update s.heap a (Obj.putSet es1 t2)
  by_cases hfull : (!was && t2.tooFull) = true
  · rw [if_pos hfull]
    have p1 := relayAll_perm t2 es1 (SetTable.grown es1.size)
    have p2 := relayAll_fits t2 es1 (SetTable.grown es1.size)
    have p3 := relayAll_ris t2 es1 (SetTable.grown es1.size)
    have p4 := relayAll_led t2 es1 (SetTable.grown es1.size)
    revert p1 p2 p3 p4
    generalize relayAll t2 es1 (SetTable.grown es1.size) = Z
    obtain ⟨es2, t3, gave⟩ := Z
    intro p1 p2 p3 p4
    have sz : es2.size = es1.size := by have := p1.length_eq; rwa [Array.length_toList, Array.length_toList] at this
    refine wpAny_bind (hg gave _ _ ?_)
    refine wpAny_bind (wpAny_storeSet_of o1 rfl ?_ (fits_of_scanBound (show es2.size < scanBound by rw [sz]; exact hb1)))
    exact wpAny_pure (hR _ (same1.trans (Heap.SameBut.update _ a _)) ⟨_, es2, _, t3, store_at (es' := es2) (t' := t3) o1 rfl, hex, rfl, x.perm p1, p2, p3, T.led.imp id fun z => by rw [show t3.led = t2.led from p4]; exact z⟩)
  · rw [if_neg hfull]
    exact wpAny_pure (hR _ same1 ⟨_, es1, _, t2, o1, hex, rfl, x, T⟩)
theorem gave_way (b : Bool) {s1 : Shared} {Q1 : Unit → Shared → Prop} (q : Q1 () s1) : wpAny (model P w) A (match b with | true => rule "set.scan.the-table-gave-way" | false => pure ()) Q1 E s1 := by
  cases b
  · exact wpAny_pure q
  · exact wpAny_rule q
theorem sg_add {k : κ} {v : Value} {Q : Bool → Shared → Prop} (R : SetG D s.heap a ks) (hk : D.knd.is k v = true) (room : Few (ks ++ [k]))
    (hQ : ∀ b h', Heap.SameBut a s.heap h' → SetG D h' a (ks ++ [k]) → Q b { s with heap := h' }) : wpAny (model P w) A (setAddHashed a v (D.knd.hash k)) Q E s := by
  obtain ⟨o, es, ep, t, ho, hex, hd, x, T⟩ := R
  have hsc := D.sc k v hk
  have hb : es.size < scanBound := x.lt (room.sub fun k hk => List.mem_append_left _ hk)
  unfold setAddHashed setAddHashedIn
  refine wpAny_holding (wpAny_bind (wpAny_setState_of ho hd T.fits ?_))
  dsimp only
  rw [byScan_of hsc hb x.elems]
  simp only [↓reduceIte]
  unfold setAddByScan
  refine wpAny_bind (wpAny_bind (wpAny_rule (wpAny_bind (wpAny_setScan_of hk ho hd T.fits x.elems ?_))))
  cases hf : List.findIdx? (fun e => D.knd.is k e.2) es.toList with
  | some j =>
    obtain ⟨hj, pj, _⟩ := List.findIdx?_eq_some_iff_getElem.mp hf
    have hin : k ∈ ks := (x.mem k).mp (List.mem_map.mpr ⟨_, List.getElem_mem hj, D.hd k _ pj⟩)
    exact wpAny_pure (wpAny_pure (hQ _ s.heap (Heap.SameBut.refl a s.heap) ⟨o, es, ep, t, ho, hex, hd, x.same hin, T⟩))
  | none =>
    have hno : k ∉ ks := fun z => by
      obtain ⟨e, he, q⟩ := List.mem_map.mp ((x.mem k).mpr z)
      have c := List.findIdx?_eq_none_iff.mp hf e he
      have c2 := (x.good e he).1
      rw [q, c] at c2
      cases c2
    dsimp only
    have p1 := layNew_perm t es (D.knd.hash k) v
    have p2 := layNew_fits t es (D.knd.hash k) v
    have p3 := layNew_ris t es (D.knd.hash k) v T.ris
    have p4 := layNew_led t es (D.knd.hash k) v
    revert p1 p2 p3 p4
    generalize layNew t es (D.knd.hash k) v = Z
    obtain ⟨es1, t1, was, gave⟩ := Z
    intro p1 p2 p3 p4
    dsimp only at p1 p2 p3 p4 ⊢
    rw [Array.toList_push] at p1
    have x1 : Ent D es1 (ks ++ [k]) := x.more hk hno (p1.trans (List.perm_append_singleton _ _))
    have l1 : Led w t1 := T.led.imp id fun z => by rw [p4]; exact z
    have hbb : Few (ks ++ [k]) := room
    refine wpAny_bind (gave_way gave ?_)
    have hgw : ∀ (b : Bool) (s1 : Shared) (Q1 : Unit → Shared → Prop), Q1 () s1 → wpAny (model P w) A (match b with | true => rule "set.scan.the-table-gave-way" | false => pure ()) Q1 E s1 := fun b s1 Q1 q => gave_way b q
    split
    · refine wpAny_bind ?_
      rw [hashByValue_scannable 8 hsc]
      refine wpAny_pure ?_
      refine sg_store ?_ ho hex hd x1 hbb ?_ ?_
      · intro b s1 Q1 q; cases b <;> first | exact wpAny_pure q | exact wpAny_rule q
      · split <;> first | exact ⟨p2, p3, l1⟩ | exact ⟨SetTable.fits_plain_off p2, p3, l1⟩
      · intro h' sb r; exact wpAny_pure (hQ _ h' sb r)
    · refine wpAny_bind (wpAny_pure ?_)
      simp only [↓reduceIte]
      refine sg_store ?_ ho hex hd x1 hbb ⟨p2, p3, l1⟩ ?_
      · intro b s1 Q1 q; cases b <;> first | exact wpAny_pure q | exact wpAny_rule q
      · intro h' sb r; exact wpAny_pure (hQ _ h' sb r)
end
section
variable {P : Program} {w : World} {κ : Type} [DecidableEq κ] {D : Kn P w κ} {A : Around} {E : Value → Shared → Prop} {s : Shared}
/-- the empty set as it is made -/
def emp (w : World) : Obj := { cls := .type "set", dict := none, data := .set #[] 0 (.fresh 0 0 (!w.params.followText "set-order")) }
theorem SetG.emp {h : Heap} {a : Addr} (ho : h.get? a = some (emp w)) : SetG D h a [] :=
  ⟨_, #[], 0, _, ho, ⟨rfl, rfl, rfl⟩, rfl, ⟨fun e he => absurd he (by simp), List.Pairwise.nil, fun k => by simp [Kn.keys], Nat.le_refl _⟩, ⟨rfl, List.Pairwise.nil, by
    show _ ∨ (!w.params.followText "set-order") = true
    cases w.params.followText "set-order" <;> simp⟩⟩
theorem sg_loop {I : Addr} {fp wr : List Addr} {G : Array GenState → Array GenState → Prop} {n : Nat} {Pv : Nat → Value → Prop} {St : Nat → Shared → Prop} {R : Result → Shared → Prop} (W : WalksS P w A.in1 I fp wr G n Pv St)
    (S : Addr) (hS : S ∉ fp) (xs : List κ) (hn : n = xs.length) (hb : Few xs) (hv : ∀ i v, Pv i v → ∃ k, xs[i]? = some k ∧ D.knd.is k v = true) :
    ∀ (m i : Nat) (s : Shared), n - i = m → i ≤ n → St i s → SetG D s.heap S (xs.take i) → (∀ s1, Moved (S :: wr) G s s1 → SetG D s1.heap S xs → R (.ok (.ret .none)) s1) → codeAny (model P w) A (.builtin "set.update.loop" ⟨[.ref S, .ref I], []⟩) R s := by
  have sw : S ∉ wr := fun z => hS (W.sub _ z)
  have up : ∀ b ∈ wr, b ∈ S :: wr := fun b z => List.mem_cons_of_mem _ z
  intro m
  induction m with
  | zero =>
    intro i s hm hi st g hR
    obtain rfl : i = n := by omega
    refine codeAny_builtin F.entry_set_update_loop ?_
    rw [Around.under_plainId F.plain_set_update_loop _]
    show wpAny _ A.in1 (pyNext (.ref I) >>= _) _ _ s
    refine wpAny_bind (W.done s _ _ st fun s1 mv => ?_)
    rw [List.take_of_length_le (Nat.le_of_eq hn.symm)] at g
    exact wpAny_pure (hR s1 (mv.mono up) (g.at fun o e => mv.heap S o sw e))
  | succ m ih =>
    intro i s hm hi st g hR
    have lt : i < n := by omega
    refine codeAny_builtin F.entry_set_update_loop ?_
    rw [Around.under_plainId F.plain_set_update_loop _]
    show wpAny _ A.in1 (pyNext (.ref I) >>= _) _ _ s
    refine wpAny_bind (W.item i s _ _ lt st fun v s1 pv st1 mv => ?_)
    obtain ⟨k, hk, is⟩ := hv i v pv
    have g1 : SetG D s1.heap S (xs.take i) := g.at fun o e => mv.heap S o sw e
    show wpAny _ A.in1 (holding [v] (setAdd S v) >>= _) _ _ s1
    refine wpAny_bind (wpAny_holding ?_)
    unfold setAdd
    refine wpAny_holding (wpAny_bind (D.knd.pyHash (k := k) is ?_))
    refine sg_add (s := { s1 with toks := s1.toks + 1 }) g1 is (hb.sub fun z hz => (List.mem_append.mp hz).elim List.mem_of_mem_take fun q => List.mem_singleton.mp q ▸ List.mem_of_getElem? hk) fun _ h1 sb g2 => ?_
    have g3 : SetG D h1 S (xs.take (i + 1)) := by rw [List.take_add_one, hk]; exact g2
    refine wpAny_pure ⟨plainId_quiet F.plain_set_update_loop _, ih (i + 1) _ (by omega) lt (W.frame _ s1 _ _ st1 (Nat.le_succ _) fun b hbf o e => ?_) g3 fun s2 mv2 g4 => ?_⟩
    · rw [hbf |> fun z => sb.2 b fun q : b = S => hS (q ▸ z)]; exact e
    · refine hR s2 (Moved.trans W.gtrans ((mv.mono up).then_heap (Nat.le_succ _) fun b o z e => ?_) mv2) g4
      rw [sb.2 b fun q : b = S => z (q ▸ List.mem_cons_self)]; exact e
set_option maxHeartbeats 3200000 in
/-- set(l), l a list -/
theorem sg_call {l : Addr} {items : Array Value} (xs : List κ) {Q : Value → Shared → Prop} (hh : A.handled = none) (hl : s.heap.IsList l items) (hsz : items.size = xs.length) (hb : Few xs) (hv : ∀ (i : Nat) v, items[i]? = some v → ∃ k, xs[i]? = some k ∧ D.knd.is k v = true)
    (h : ∀ (h1 : Heap) (tk : Nat), SetG D h1 s.heap.objs.size xs → (∀ b o, s.heap.get? b = some o → h1.get? b = some o) → Q (.ref s.heap.objs.size) { s with heap := h1, toks := tk }) : wpAny (model P w) A (call (.type "set") [.ref l]) Q E s := by
  obtain ⟨c, tl, mr⟩ := F.called_set.mro
  have made := F.called_set.made
  have sub := F.called_set.sub
  refine wpAny_call (codeAny_of_tree ?_)
  show wpAny _ _ (callAny (.type "set") _) _ _ _
  refine wpAny_pure ⟨Code.quiet_builtin _ (by decide +kernel), codeAny_builtin F.entry_type_call ?_⟩
  rw [Around.under_plain (weight_type_call_type "set" [.ref l] []) rfl]
  have nt := F.called_set.notType
  have cc := F.called_set.canCreate
  have tc := F.typeCall_set_1 (.ref l)
  repeat (any_goals (first | assumption | wp_step))
  have news : ∀ o, o = emp w → (s.heap.push o).get? s.heap.objs.size = some (emp w) := fun o e => by rw [e]; exact Heap.get?_push_size _ rfl
  refine codeAny_mono (code_set_led1 (.ref l) (E := E) (Q₁ := fun ob s1 => ob = .ref s.heap.objs.size ∧ s1 = { s with heap := s.heap.push (emp w) }) ⟨rfl, rfl⟩) fun r s1 hr => ?_
  cases r with
  | error e => exact hr
  | ok fl =>
    cases fl with
    | ret ob =>
      obtain ⟨rfl, rfl⟩ := hr
      have gS := news _ rfl
      have tS : Shared.TypeIs { s with heap := s.heap.push (emp w) } (.ref s.heap.objs.size) "set" := ⟨_, gS, rfl⟩
      have li := F.called_set.init.lookup
      have bi := F.called_set.init.bind (.ref s.heap.objs.size)
      repeat (any_goals (first | assumption | wp_step))
      refine codeAny_mono (codeAny_call_builtin (R := wants (fun r s2 => r = .none ∧ ∃ h1 tk, s2 = { s with heap := h1, toks := tk } ∧ SetG D h1 s.heap.objs.size xs ∧ ∀ b o, s.heap.get? b = some o → h1.get? b = some o) E) F.called_set.init.plain F.entry_set_init (check_set_init_1 tS ?_)) fun r2 s2 hr2 => ?_
      · obtain ⟨ol, gl, cl, nl, dl⟩ := hl
        obtain ⟨oc, od, oda, osl⟩ := ol
        simp only at cl dl
        subst cl dl
        have gl1 : (s.heap.push (emp w)).get? l = some { cls := .type "list", dict := od, data := .seq items nl, slots := osl } := Heap.get?_push_of_some _ gl
        have s1 := F.sub_list_set
        have s2 := F.sub_list_frozenset
        have n1 : (Value.type "list" == Value.type "dict") = false := by decide
        have hl1 : (s.heap.push (emp w)).IsList l items := ⟨_, gl1, rfl, nl, rfl⟩
        unfold Builtin.«set.__init__» noKeywords Builtin.Frozenset.updateFrom
        generalize hPI : pyIter = PI
        wp_walk
        subst hPI
        refine wpAny_pyIter_list hl1 (wpAny_bind (wpAny_runValue ?_))
        have lt := Heap.lt_size gl
        have sz : (s.heap.push (emp w)).objs.size = s.heap.objs.size + 1 := Heap.size_push ..
        have ne : l ≠ (s.heap.push (emp w)).objs.size := fun z => Nat.lt_irrefl l (Nat.lt_of_lt_of_le lt (by rw [z, sz]; exact Nat.le_succ _))
        have nf : s.heap.objs.size ∉ [(s.heap.push (emp w)).objs.size, l] := by
          rw [sz]
          intro z
          rcases List.mem_cons.mp z with z | z
          · exact Nat.ne_of_lt (Nat.lt_succ_self _) z
          · exact Nat.ne_of_gt lt (List.mem_singleton.mp z)
        refine sg_loop (D := D) ((Walks.list (by simp [hh]) _ l ne items).toS) s.heap.objs.size nf xs hsz hb hv (items.size - 0) 0 _ (by omega) (Nat.zero_le _)
          ⟨⟨_, Heap.get?_push_size _ rfl, rfl, rfl⟩, hl1.push _⟩ ?g0 ?gR
        case g0 => exact SetG.emp (Heap.get?_push_of_some _ gS)
        case gR =>
          intro s3 mv g3
          obtain ⟨h3, g3', d3, tk3, os3⟩ := s3
          obtain rfl : g3' = s.gens := mv.gens
          obtain rfl : d3 = s.drawn := mv.drawn
          obtain rfl : os3 = s.os := mv.os
          show wpAny _ _ _ _ _ _
          refine wpAny_pure ?_
          show wpAny _ _ (ret Value.none) _ _ _
          refine wpAny_pure ⟨rfl, h3, tk3, rfl, g3, fun b o e => mv.heap b o ?_ (Heap.get?_push_of_some _ (Heap.get?_push_of_some _ e))⟩
          have hb1 := Heap.lt_size e
          rw [sz]
          intro z
          rcases List.mem_cons.mp z with z | z
          · exact Nat.ne_of_lt hb1 z
          · exact Nat.ne_of_lt (Nat.lt_succ_of_lt hb1) (List.mem_singleton.mp z)
      · cases r2 with
        | error e => exact hr2
        | ok fl2 =>
          cases fl2 with
          | ret r =>
            obtain ⟨rfl, h1, tk, rfl, g1, k1⟩ := hr2
            repeat (any_goals (first | assumption | wp_step))
            exact h _ _ g1 k1
          | _ => exact hr2.elim
    | _ => exact hr.elim
end
end FlSet
set_option Elab.async false
set_option linter.all false
set_option maxRecDepth 100000
namespace FlSet
open PySem PySem.Spec PyProof.Rows L2
section
variable (P : Program) (w : World)
def knI : Kn P w Int where
  knd := PySem.intKind P w
  dec := fun v => match v with | .int k _ => k | _ => 0
  hd := fun k v h => by obtain ⟨t, rfl⟩ := Value.isInt_shape h; rfl
  sc := fun k v h => by obtain ⟨t, rfl⟩ := Value.isInt_shape h; rfl
def knS : Kn P w Str where
  knd := PySem.strKind P w
  dec := fun v => match v with | .str k _ => k | _ => ⟨#[]⟩
  hd := fun k v h => by obtain ⟨t, rfl⟩ := Value.isStrOf_shape h; rfl
  sc := fun k v h => by obtain ⟨t, rfl⟩ := Value.isStrOf_shape h; rfl
end
section
variable {P : Program} {w : World} {κ : Type} [DecidableEq κ] {D : Kn P w κ} {A : Around} {E : Value → Shared → Prop} {s : Shared} {a : Addr} {ks : List κ}
theorem sg_sorted {Are : List Value → List κ → Prop} {Srt : List κ → Prop} {Q : Value → Shared → Prop} (R : SetG D s.heap a ks) (hh : A.handled = none) (hb : Few ks)
    (hAre : ∀ vs : List Value, (∀ v ∈ vs, D.knd.is (D.dec v) v = true) → Are vs (vs.map D.dec))
    (hs : ∀ {A' : Around} {E' : Value → Shared → Prop} {s' : Shared} {m : Addr} {vs : List Value} {ys : List κ} {n : Nat} {F : Fin → Shared → Prop}, s'.heap.get? m = some (seqObj "list" vs.toArray n) → Are vs ys → vs.length ≤ sizeLine →
      (∀ (out : Array Value) (zs : List κ), Are out.toList zs → zs.Perm ys → Srt zs → F (.done (.ret .none)) { s' with heap := sortedHeap s'.heap m vs out }) → wpAny (model P w) A' (Builtin.«list.sort» ⟨[.ref m], []⟩) F E' s')
    (hQ : ∀ s1 p (out : Array Value) (c : Nat) (zs : List κ), (∀ b o, s.heap.get? b = some o → s1.heap.get? b = some o) → s1.gens = s.gens → s1.os = s.os → s.heap.objs.size ≤ p → s1.heap.get? p = some (seqObj "list" out c) → Are out.toList zs → zs.Nodup → (∀ k, k ∈ zs ↔ k ∈ ks) → Srt zs → zs.length ≤ ks.length → Q (.ref p) s1) :
    wpAny (model P w) A (call (.builtin "sorted") [.ref a]) Q E s := by
  obtain ⟨o, es, ep, t, ho, hex, hd, x, T⟩ := R
  refine Calls.call_function_entry kind_sorted plain_sorted entry_sorted (args_sorted1 _) ?_
  unfold Builtin.«sorted»
  refine wpAny_bind (m := checkCount "sorted" 1 1 _) (wpAny_pure (wpAny_bind (collect_set (A := A.in1) hh ⟨o, ho, hex.1, hd⟩ T.fits (x.lt hb) T.ris T.led fun s1 vs k1 hz g1 o1 pm => ?_)))
  have len : vs.length ≤ ks.length := by
    rw [pm.length_eq, List.length_map, Array.length_toList]; exact x.le
  have sl : vs.length ≤ sizeLine := by
    have h1 := x.lt hb
    have h2 := pm.length_eq
    rw [List.length_map] at h2
    have h3 : es.toList.length = es.size := Array.length_toList
    rw [sizeLine_eq]; unfold scanBound at h1; omega
  have are : Are vs (vs.map D.dec) := hAre vs fun v hv => by
    obtain ⟨e, he, q⟩ := List.mem_map.mp (pm.mem_iff.mp hv)
    rw [← q]; exact (x.good e he).1
  have pk : (vs.map D.dec).Perm (D.keys es) := by
    have q := pm.map D.dec
    rw [List.map_map] at q; exact q
  refine wpAny_bind (wpAny_newList ?_ sl)
  have gl : (s1.heap.push (seqObj "list" vs.toArray 0)).get? s1.heap.objs.size = some (seqObj "list" vs.toArray 0) := Heap.get?_push_size _ rfl
  refine wpAny_bind (wpAny_holding (wpAny_call_entry slot_list_sort ⟨_, gl, rfl⟩ entry_list_sort (hs gl are sl fun out zs a1 a2 a3 => ⟨_, rfl, ?_⟩) (args_list_sort _)))
  obtain ⟨c, hc⟩ := sortedHeap_at (vs := vs) (out := out) gl
  have pn : zs.Perm (D.keys es) := a2.trans pk
  refine wpAny_pure ⟨_, rfl, hQ _ s1.heap.objs.size out c zs (fun b u e => ?_) g1 o1 hz hc a1 (pn.nodup_iff.mpr x.nd) (fun k => pn.mem_iff.trans (x.mem k)) a3 ?_⟩
  · have e1 := k1 b u e
    have lt := Heap.lt_size e1
    show (sortedHeap (s1.heap.push (seqObj "list" vs.toArray 0)) s1.heap.objs.size vs out).get? b = some u
    rw [sortedHeap_old (Nat.ne_of_lt lt) (by rw [size_push']; exact Nat.lt_succ_of_lt lt)]
    exact Heap.get?_push_of_some _ e1
  · rw [a2.length_eq, List.length_map]; exact len
end
theorem intsAre_map : ∀ vs : List Value, (∀ v ∈ vs, (knI P w).knd.is ((knI P w).dec v) v = true) → IntsAre vs (vs.map (knI P w).dec)
  | [], _ => .nil
  | v :: vs, h => by
    obtain ⟨t, e⟩ := Value.isInt_shape (h v (by simp))
    have ih := intsAre_map vs fun z hz => h z (by simp [hz])
    rw [List.map_cons]
    generalize (knI P w).dec v = k at e ⊢
    subst e
    exact .cons k t ih
theorem strsAre_map : ∀ vs : List Value, (∀ v ∈ vs, (knS P w).knd.is ((knS P w).dec v) v = true) → StrsAre vs (vs.map (knS P w).dec)
  | [], _ => .nil
  | v :: vs, h => by
    obtain ⟨t, e⟩ := Value.isStrOf_shape (h v (by simp))
    have ih := strsAre_map vs fun z hz => h z (by simp [hz])
    rw [List.map_cons]
    generalize (knS P w).dec v = k at e ⊢
    subst e
    exact .cons k t ih
section
variable {P : Program} {w : World} {A : Around} {E : Value → Shared → Prop} {s : Shared}
theorem sort_strs {m : Addr} {vs : List Value} {ys : List Str} {n : Nat} {F : Fin → Shared → Prop} (ho : s.heap.get? m = some (seqObj "list" vs.toArray n)) (hS : StrsAre vs ys) (hL : vs.length ≤ sizeLine)
    (h : ∀ (out : Array Value) (zs : List Str), StrsAre out.toList zs → zs.Perm ys → sortedS zs = true → F (.done (.ret .none)) { s with heap := sortedHeap s.heap m vs out }) : wpAny (model P w) A (Builtin.«list.sort» ⟨[.ref m], []⟩) F E s :=
  list_sort_treeKAny strKind_oneLt ho hS.keysOf (fun v1 v2 rest e => keyKind_strs (by rw [← e]; exact hS)) hL fun st hp hs => by
    obtain ⟨zs, h1, h2, h3⟩ := sorted_out_str hS hp hs
    exact h _ zs h1 h2 h3
end
theorem strs_ix : ∀ {vs : List Value} {xs : List Str}, StrsAre vs xs → ∀ (i : Nat) (v : Value), vs[i]? = some v → ∃ k t, xs[i]? = some k ∧ v = .str k t
  | _, _, .nil, i, v, h => by simp at h
  | _, _, .cons y t hr, 0, v, h => by simp at h; exact ⟨y, t, rfl, h.symm⟩
  | _, _, .cons y t hr, i + 1, v, h => by
    rw [List.getElem?_cons_succ] at h
    obtain ⟨k, t', e1, e2⟩ := strs_ix hr i v h
    exact ⟨k, t', by rw [List.getElem?_cons_succ]; exact e1, e2⟩
/-! ### sorted(set(l)) -/
def tSS (K : PySem.W.Frag) (ta : TE) : TE := fun σ H Q => ta σ H fun x H1 =>
  (∃ (l : Addr) (ns : List Int), x = .ref l ∧ SqL K H1 l (ns.map V.int) ∧ Few ns ∧ ∀ (zs : List Int) (p : Addr), zs.Nodup → (∀ k, k ∈ zs ↔ k ∈ ns) → zs.Pairwise (· ≤ ·) → zs.length ≤ ns.length → H1 p = none → Q (.ref p) (upd H1 p (.lst (zs.map V.int))))
  ∨ ∃ (l : Addr) (xs : List Str), x = .ref l ∧ SqL K H1 l (xs.map V.str) ∧ Few xs ∧ ∀ (zs : List Str) (p : Addr), zs.Nodup → (∀ k, k ∈ zs ↔ k ∈ xs) → sortedS zs = true → zs.length ≤ xs.length → H1 p = none → Q (.ref p) (upd H1 p (.lst (zs.map V.str)))
theorem pe_ss {X : Cx} {a : Expr} {ta : TE} {p p2 q pos : Pos} (hg : Gl X "sorted") (hm : X.mg "sorted" = none) (hg2 : Gl X "set") (hm2 : X.mg "set" = none) (hb : bootBuiltins "sorted" = some (.builtin "sorted")) (hb2 : bootBuiltins "set" = some (.type "set")) (ha : PE X a ta) (hc : X.calm = true := by rfl)
    (na : starEach [a] X.env = (false, eval a X.env) :: starEach [] X.env := by rfl) : PE X (.Call (.Name "sorted" p) [.Call (.Name "set" p2) [a] [] q] [] pos) (tSS X.K ta) := by
  refine ⟨fun pins s σ H Q I h => ?_⟩
  refine Call_ (ld_blt I hg hm hb ?_)
  refine PyProof.Rows.callWith_builtin1 (PyProof.Rows.args_cons ?_ rfl) rfl rfl
  refine Call_ (ld_blt I hg2 hm2 hb2 ?_)
  refine PyProof.Rows.callWith_type1 (PyProof.Rows.args_cons (thn (ha.run pins s σ H _ I h) fun v s1 ⟨x, H1, I1, r1, q1⟩ => PyProof.Rows.args_nil ?_) na) na rfl
  rcases q1 with ⟨l, ns, rfl, hq, hl, q1⟩ | ⟨l, xs, rfl, hq, hl, q1⟩
  · cases r1
    obtain ⟨its, r, pl, hz⟩ := I1.list hq
    have are := r.ints
    have hlen : its.toArray.size = ns.length := by rw [List.size_toArray, ← r.length, List.length_map]
    refine sg_call (D := knI X.prog X.w) ns (I1.ok.hd hc) pl.isList hlen hl (fun i v hv => ?_) fun h1 tk g1 k1 => PyProof.Rows.args_nil ?_
    · obtain ⟨t, e⟩ := IntsAre.int_at are i v (by simpa using hv)
      have hi : i < ns.length := by rw [← hlen]; exact (Array.getElem?_eq_some_iff.mp hv).1
      refine ⟨ns[i], List.getElem?_eq_getElem hi, ?_⟩
      rw [e, List.getD_eq_getElem?_getD, List.getElem?_eq_getElem hi]
      exact intKind_is _ _ _ _
    · have I2 : Inv X pins σ H1 { s1 with heap := h1, toks := tk } := I1.kept fun b o e => k1 b o e
      refine sg_sorted (D := knI X.prog X.w) (Are := IntsAre) (Srt := fun zs => zs.Pairwise (· ≤ ·)) g1 (I2.ok.hd hc) hl (fun vs => intsAre_map vs) (fun g a b f => list_sort_treeAny g a b f) fun s2 p out c zs k g o hp hg hi nd hm hs hl2 => ?_
      have hn : H1 p = none := I2.hok.fresh hp
      have hsz : (zs.map V.int).length ≤ sizeLine := by have h1 := hl.lt nd (fun k hk => (hm k).mp hk); rw [List.length_map, sizeLine_eq]; unfold scanBound at h1; omega
      exact ⟨.ref p, upd H1 p (.lst (zs.map V.int)), I2.call' (ch := []) o (Un.laid k hp hn) (I2.hok.laid (o := .lst (zs.map V.int)) k hp ⟨hsz, out.toList, c, vals_of_ints hi, hg⟩) (by rw [g]; exact I2.bare) (fun _ z => nomatch z), rfl, q1 zs p nd hm hs hl2 hn⟩
  · cases r1
    obtain ⟨its, r, pl, hz⟩ := I1.list hq
    have are := r.strs
    have hlen : its.toArray.size = xs.length := by rw [List.size_toArray, ← r.length, List.length_map]
    refine sg_call (D := knS X.prog X.w) xs (I1.ok.hd hc) pl.isList hlen hl (fun i v hv => ?_) fun h1 tk g1 k1 => PyProof.Rows.args_nil ?_
    · obtain ⟨k, t, e1, e⟩ := strs_ix are i v (by simpa using hv)
      exact ⟨k, e1, by rw [e]; exact strKind_is _ _ _ _⟩
    · have I2 : Inv X pins σ H1 { s1 with heap := h1, toks := tk } := I1.kept fun b o e => k1 b o e
      refine sg_sorted (D := knS X.prog X.w) (Are := StrsAre) (Srt := fun zs => sortedS zs = true) g1 (I2.ok.hd hc) hl (fun vs => strsAre_map vs) (fun g a b f => sort_strs g a b f) fun s2 p out c zs k g o hp hg hi nd hm hs hl2 => ?_
      have hn : H1 p = none := I2.hok.fresh hp
      have hsz : (zs.map V.str).length ≤ sizeLine := by have h1 := hl.lt nd (fun k hk => (hm k).mp hk); rw [List.length_map, sizeLine_eq]; unfold scanBound at h1; omega
      exact ⟨.ref p, upd H1 p (.lst (zs.map V.str)), I2.call' (ch := []) o (Un.laid k hp hn) (I2.hok.laid (o := .lst (zs.map V.str)) k hp ⟨hsz, out.toList, c, vals_of_strs hi, hg⟩) (by rw [g]; exact I2.bare) (fun _ z => nomatch z), rfl, q1 zs p nd hm hs hl2 hn⟩
end FlSet
set_option Elab.async false
set_option linter.all false
set_option maxRecDepth 100000
namespace Fl
open PySem PySem.Spec PyProof.Rows L2
/-! ### sorted(set(l)) as a function -/
theorem strict_unique {α : Type} {lt : α → α → Prop} (irr : ∀ a, ¬ lt a a) (tr : ∀ {a b c}, lt a b → lt b c → lt a c) : ∀ xs ys : List α, xs.Pairwise lt → ys.Pairwise lt → (∀ k, k ∈ xs ↔ k ∈ ys) → xs = ys
  | [], [], _, _, _ => rfl
  | [], y :: ys, _, _, h => absurd ((h y).mpr List.mem_cons_self) (by simp)
  | x :: xs, [], _, _, h => absurd ((h x).mp List.mem_cons_self) (by simp)
  | x :: xs, y :: ys, h1, h2, h => by
    obtain ⟨a1, a2⟩ := List.pairwise_cons.mp h1
    obtain ⟨b1, b2⟩ := List.pairwise_cons.mp h2
    have e : x = y := by
      rcases List.mem_cons.mp ((h x).mp List.mem_cons_self) with z | z
      · exact z
      · rcases List.mem_cons.mp ((h y).mpr List.mem_cons_self) with z2 | z2
        · exact z2.symm
        · exact absurd (tr (a1 y z2) (b1 x z)) (irr x)
    subst e
    rw [strict_unique irr tr xs ys a2 b2 fun k => ?_]
    constructor
    · intro z
      rcases List.mem_cons.mp ((h k).mp (List.mem_cons_of_mem _ z)) with q | q
      · subst q; exact absurd (a1 k z) (irr k)
      · exact q
    · intro z
      rcases List.mem_cons.mp ((h k).mpr (List.mem_cons_of_mem _ z)) with q | q
      · subst q; exact absurd (b1 k z) (irr k)
      · exact q
open Classical in
noncomputable def srt {α : Type} (lt : α → α → Prop) (ns : List α) : List α := if h : ∃ zs : List α, zs.Pairwise lt ∧ ∀ k, k ∈ zs ↔ k ∈ ns then Classical.choose h else []
theorem srt_eq {α : Type} {lt : α → α → Prop} (irr : ∀ a, ¬ lt a a) (tr : ∀ {a b c}, lt a b → lt b c → lt a c) {ns zs : List α} (h1 : zs.Pairwise lt) (h2 : ∀ k, k ∈ zs ↔ k ∈ ns) : srt lt ns = zs := by
  have h : ∃ zs : List α, zs.Pairwise lt ∧ ∀ k, k ∈ zs ↔ k ∈ ns := ⟨zs, h1, h2⟩
  unfold srt
  rw [dif_pos h]
  obtain ⟨q1, q2⟩ := Classical.choose_spec h
  exact strict_unique irr tr _ _ q1 h1 fun k => (q2 k).trans (h2 k).symm
noncomputable def srtI (ns : List Int) : List Int := srt (· < ·) ns
noncomputable def srtS (xs : List (List Nat)) : List (List Nat) := srt (· < ·) xs
theorem srtI_eq {ns zs : List Int} (h1 : zs.Pairwise (· < ·)) (h2 : ∀ k, k ∈ zs ↔ k ∈ ns) : srtI ns = zs := srt_eq (fun a => Int.lt_irrefl a) (fun h1 h2 => Int.lt_trans h1 h2) h1 h2
theorem srtS_eq {ns zs : List (List Nat)} (h1 : zs.Pairwise (· < ·)) (h2 : ∀ k, k ∈ zs ↔ k ∈ ns) : srtS ns = zs := srt_eq (fun a => List.lt_irrefl a) (fun h1 h2 => List.lt_trans h1 h2) h1 h2
open Classical in
noncomputable def ssF (fa : EF) : EF := fun δ s => (fa δ s).bind fun x s1 => match view s1 x with
  | .lst ds => match intsD ds with
    | some ns => if FlSet.Few ns then .val (.lst ((srtI ns).map .int)) s1 else .stuck
    | none => match strsD ds with
      | some xs => if FlSet.Few xs then .val (.lst ((srtS xs).map .str)) s1 else .stuck
      | none => .stuck
  | _ => .stuck
theorem rising_tail : ∀ {p : Str} {r : List Str}, risingS p r = true → ∀ y ∈ r, ¬ (y.cps.toList < p.cps.toList)
  | p, [], _, y, h => nomatch h
  | p, x :: r, h, y, hy => by
    simp only [risingS, Bool.and_eq_true, Bool.not_eq_true', ltCps_eq, decide_eq_false_iff_not] at h
    rcases List.mem_cons.mp hy with z | z
    · subst z; exact h.1
    · intro q
      have := rising_tail h.2 y z
      rcases List.le_iff_lt_or_eq.mp (List.not_lt.mp h.1) with e | e
      · exact this (List.lt_trans q e)
      · exact this (e ▸ q)
theorem few_map {α β : Type} {f : α → β} {xs : List α} (h : FlSet.Few xs) : FlSet.Few (xs.map f) := by
  obtain ⟨U, a, b⟩ := h
  refine ⟨U.map f, by rw [List.length_map]; exact a, fun k hk => ?_⟩
  obtain ⟨z, hz, rfl⟩ := List.mem_map.mp hk
  exact List.mem_map.mpr ⟨z, b z hz, rfl⟩
theorem few_len {α : Type} {xs : List α} (h : xs.length ≤ 4000) : FlSet.Few xs := FlSet.Few.of_len (by unfold scanBound; omega)
theorem sortedS_strict : ∀ {zs : List Str}, sortedS zs = true → zs.Nodup → (zs.map fun z => z.cps.toList).Pairwise (· < ·)
  | [], _, _ => .nil
  | x :: r, h, nd => by
    obtain ⟨n1, n2⟩ := List.nodup_cons.mp nd
    rw [List.map_cons, List.pairwise_cons]
    have hr : sortedS r = true := by
      cases r with
      | nil => rfl
      | cons y r =>
        simp only [sortedS, risingS, Bool.and_eq_true] at h ⊢
        exact h.2
    refine ⟨fun z hz => ?_, sortedS_strict hr n2⟩
    obtain ⟨y, hy, rfl⟩ := List.mem_map.mp hz
    have h1 := rising_tail h y hy
    rcases List.le_iff_lt_or_eq.mp (List.not_lt.mp h1) with q | q
    · exact q
    · have : x = y := by
        cases x; cases y
        exact congrArg Str.mk (Array.toList_inj.mp q)
      exact absurd (this ▸ hy) n1
section
variable {X : Cx} {cl : Nat → Value} {W : WX} {a : Expr} {fa : EF}
theorem je_ss {p p2 q pos : Pos} (hg : Gl X "sorted") (hm : X.mg "sorted" = none) (hg2 : Gl X "set") (hm2 : X.mg "set" = none) (ha : JE X cl W a fa) (hc : X.calm = true := by rfl)
    (na : starEach [a] X.env = (false, eval a X.env) :: starEach [] X.env := by rfl) : JE X cl W (.Call (.Name "sorted" p) [.Call (.Name "set" p2) [a] [] q] [] pos) (ssF fa) :=
  (FlSet.pe_ss hg hm hg2 hm2 bb_sorted bb_set ha hc na).imp fun σ H Q h => by
  obtain ⟨M, ι, δ, s, C, S, P⟩ := h
  refine ⟨M, ι, δ, s, C, S, Post.mono (Post.bind (Rep X.K) P) fun u H1 m => ?_⟩
  obtain ⟨M1, ι1, x, s1, t1, C1, r1, P1⟩ := m.ex
  have sx := C1.sees r1
  split at P1
  · rename_i ds e1
    rw [e1] at sx
    obtain ⟨l, vs, rfl, g1, g2⟩ := sx
    split at P1
    · rename_i ns hn
      split at P1
      · rename_i hl
        have hv := ints_v g2 hn
        refine .inl ⟨l, ns, rfl, by rw [← hv]; exact SqL.of g1, hl, fun zs p nd hm hs hlz hp => ?_⟩
        have hst : zs.Pairwise (· < ·) := (List.Pairwise.and hs nd).imp fun {a b} z => by
          have h1 : a ≤ b := z.1
          have h2 : a ≠ b := z.2
          omega
        rw [srtI_eq hst hm] at P1
        exact Post.laidL P1 C1 (RepL.ints zs) hp
      · exact P1.elim
    · split at P1
      · rename_i xs hn
        split at P1
        · rename_i hl
          obtain ⟨q1, q2⟩ := strs_v g2 hn
          have e2 : vs = (xs.map fun cs => (⟨cs.toArray⟩ : Str)).map V.str := by rw [q1, List.map_map]; rfl
          refine .inr ⟨l, xs.map fun cs => ⟨cs.toArray⟩, rfl, by rw [← e2]; exact SqL.of g1, few_map hl, fun zs p nd hm hs hlz hp => ?_⟩
          have hst := sortedS_strict hs nd
          have hmm : ∀ k, k ∈ (zs.map fun z => z.cps.toList) ↔ k ∈ xs := fun k => by
            rw [List.mem_map]
            constructor
            · rintro ⟨z, hz, rfl⟩
              obtain ⟨c, hc, rfl⟩ := List.mem_map.mp ((hm z).mp hz)
              exact hc
            · intro hk
              exact ⟨⟨k.toArray⟩, (hm _).mpr (List.mem_map.mpr ⟨k, hk, rfl⟩), rfl⟩
          rw [srtS_eq hst hmm] at P1
          have hrep : RepL X.K M1 ((zs.map fun z => z.cps.toList).map D.str) (zs.map V.str) := by
            have key : ∀ ws : List Str, (∀ z ∈ ws, z ∈ zs) → RepL X.K M1 ((ws.map fun z => z.cps.toList).map D.str) (ws.map V.str) := by
              intro ws
              induction ws with
              | nil => intro _; exact .nil
              | cons z ws ih =>
                intro hw
                refine .cons ?_ (ih fun y hy => hw y (by simp [hy]))
                unfold RepF
                exact ⟨rfl, q2 _ ((hmm _).mp (List.mem_map.mpr ⟨z, hw z (by simp), rfl⟩))⟩
            exact key zs fun _ h => h
          exact Post.laidL P1 C1 hrep hp
        · exact P1.elim
      · exact P1.elim
  · exact P1.elim
/-- list(range(a, b)) -/
def lrF (fa fb : EF) : EF := fun δ s => (fa δ s).bind fun x s1 => (fb δ s1).bind fun y s2 => match x, y with
  | .int i, .int j => if (sm i = true ∧ sm j = true) ∧ (j - i).toNat ≤ 16000000 then .val (.lst (upI i (j - i).toNat)) s2 else .stuck
  | _, _ => .stuck
theorem rgV_rep {K : PySem.W.Frag} {M : Hp} (i j : Int) : RepL K M (upI i (j - i).toNat) (rgV i j) := by
  have h := RepL.ints (K := K) (M := M) ((List.range (j - i).toNat).map fun (k : Nat) => i + (k : Int))
  rw [List.map_map, List.map_map] at h
  exact h
theorem je_listRg {b : Expr} {fb : EF} {p p2 q pos : Pos} (hg : Gl X "list") (hm : X.mg "list" = none) (hg2 : Gl X "range") (hm2 : X.mg "range" = none) (ha : JE X cl W a fa) (hb : JE X cl W b fb) (hc : X.calm = true := by rfl)
    (na : starEach [a, b] X.env = (false, eval a X.env) :: starEach [b] X.env := by rfl) (nb : starEach [b] X.env = (false, eval b X.env) :: starEach [] X.env := by rfl) (hp : (backTo pos (starEach [b] X.env)).any (·.1) = false := by rfl)
    (nc : starEach [.Call (.Name "range" p2) [a, b] [] pos] X.env = (false, eval (.Call (.Name "range" p2) [a, b] [] pos) X.env) :: starEach [] X.env := by rfl) : JE X cl W (.Call (.Name "list" p) [.Call (.Name "range" p2) [a, b] [] pos] [] q) (lrF fa fb) :=
  (pe_listRg hc hg hm (prg_2 hg2 hm2 ha hb na nb hp) nc).imp fun σ H Q h => by
  obtain ⟨M, ι, δ, s, C, S, P⟩ := h
  refine ⟨M, ι, δ, s, C, S, Post.mono (Post.bind (Rep X.K) P) fun u H1 m => ?_⟩
  obtain ⟨M1, ι1, x, s1, t1, C1, r1, P1⟩ := m.ex
  refine ⟨M1, ι1, δ, s1, C1, S.step t1, Post.mono (Post.bind (Rep X.K) P1) fun v H2 m => ?_⟩
  obtain ⟨M2, ι2, y, s2, t2, C2, r2, P2⟩ := m.ex
  split at P2
  · rename_i i j
    split at P2
    · rename_i hc
      have h1 := sm_lt hc.1.1
      have h2 := sm_lt hc.1.2
      refine ⟨i, j, (r1.step t2).int, r2.int, ⟨h1.1, h1.2, h2.1, h2.2, by have := hc.2; omega⟩, fun p hp => Post.laidL P2 C2 (rgV_rep i j) hp⟩
    · exact P2.elim
  · exact P2.elim
end
end Fl
set_option Elab.async false
set_option linter.all false
set_option maxRecDepth 100000
namespace Fl
open PySem PySem.Spec PyProof.Rows L2
/-! ### more on lists of one's own: pop, insert, list(x), x + y, x[::-1] -/
section
variable {K : PySem.W.Frag} {M : Hp} {ι : List Addr}
theorem Reps.erase {ds : List D} {vs : List V} (h : Reps K M ι ds vs) : ∀ i : Nat, Reps K M ι (ds.eraseIdx i) (vs.eraseIdx i) := by
  induction h with
  | nil => exact fun _ => .nil
  | cons a b ih =>
    intro i
    cases i with
    | zero => exact b
    | succ i => exact .cons a (ih i)
theorem Reps.take {ds : List D} {vs : List V} (h : Reps K M ι ds vs) : ∀ i : Nat, Reps K M ι (ds.take i) (vs.take i) := by
  induction h with
  | nil => intro i; simp; exact .nil
  | cons a b ih =>
    intro i
    cases i with
    | zero => exact .nil
    | succ i => exact .cons a (ih i)
theorem Reps.drop {ds : List D} {vs : List V} (h : Reps K M ι ds vs) : ∀ i : Nat, Reps K M ι (ds.drop i) (vs.drop i) := by
  induction h with
  | nil => intro i; simp; exact .nil
  | cons a b ih =>
    intro i
    cases i with
    | zero => exact .cons a b
    | succ i => exact ih i
theorem Reps.rev {ds : List D} {vs : List V} (h : Reps K M ι ds vs) : Reps K M ι ds.reverse vs.reverse := by
  induction h with
  | nil => exact .nil
  | cons a b ih =>
    rw [List.reverse_cons, List.reverse_cons]
    exact ih.append (.cons a .nil)
end
def popG (s : Sto) (x : D) : List D → O D
  | [.int i] => match x with
    | .ob k => match s[k]? with
      | some (.lst ds) => match ds[i.toNat]? with
        | some y => if 0 ≤ i ∧ ds.length ≤ 16000000 then .val y (s.set k (.lst (ds.eraseIdx i.toNat))) else .stuck
        | none => .stuck
      | _ => .stuck
    | _ => .stuck
  | _ => .stuck
theorem ok_popAt {K : PySem.W.Frag} : OkM K "list" rPopAt popG := fun Wx M ι s H x u xs us Q C rx rs P => by
  unfold popG at P
  split at P
  · rename_i i
    split at P
    · rename_i k
      split at P
      · rename_i ds e
        split at P
        · rename_i y hy
          split at P
          · rename_i hc
            obtain ⟨w, rfl, rd⟩ := rs.one
            obtain ⟨a, rfl, hk⟩ := rx
            obtain ⟨hM, vs, h1, r1⟩ := C.obs k a _ hk e
            obtain ⟨z, h2, h3⟩ := r1.get hy
            have hlt : i.toNat < ds.length := (List.getElem?_eq_some_iff.mp hy).1
            have hix : seqIndex? i vs.length = some i.toNat := by
              rw [r1.length]
              unfold seqIndex?
              simp
              omega
            obtain ⟨C2, t2⟩ := C.put (o := .lst (vs.eraseIdx i.toNat)) (u := .lst (ds.eraseIdx i.toNat)) hk hM ⟨hM, _, upd_same, r1.erase _⟩
            exact ⟨a, vs, i, i.toNat, z, rfl, by rw [rd.int], h1, by omega, by omega, hix, h2, P _ _ _ _ t2 C2 (h3.step t2)⟩
          · exact P.elim
        · exact P.elim
      · exact P.elim
    · exact P.elim
  · exact P.elim
def pop0G (s : Sto) (x : D) : List D → O D
  | [] => match x with
    | .ob k => match s[k]? with
      | some (.lst ds) => match ds[ds.length - 1]? with
        | some y => .val y (s.set k (.lst ds.dropLast))
        | none => .stuck
      | _ => .stuck
    | _ => .stuck
  | _ => .stuck
theorem ok_pop0 {K : PySem.W.Frag} : OkM K "list" rPop pop0G := fun Wx M ι s H x u xs us Q C rx rs P => by
  unfold pop0G at P
  split at P
  · split at P
    · rename_i k
      split at P
      · rename_i ds e
        split at P
        · rename_i y hy
          cases rs
          obtain ⟨a, rfl, hk⟩ := rx
          obtain ⟨hM, vs, h1, r1⟩ := C.obs k a _ hk e
          obtain ⟨z, h2, h3⟩ := r1.get hy
          have hl := r1.length
          have r2 : Reps K M ι ds.dropLast vs.dropLast := by
            rw [List.dropLast_eq_take, List.dropLast_eq_take, hl]; exact r1.take _
          obtain ⟨C2, t2⟩ := C.put (o := .lst vs.dropLast) (u := .lst ds.dropLast) hk hM ⟨hM, _, upd_same, r2⟩
          exact ⟨a, vs, z, rfl, rfl, h1, by rw [hl]; exact h2, P _ _ _ _ t2 C2 (h3.step t2)⟩
        · exact P.elim
      · exact P.elim
    · exact P.elim
  · exact P.elim
def insG (s : Sto) (x : D) : List D → O D
  | [.int i, y] => match x with
    | .ob k => match s[k]? with
      | some (.lst ds) => if (0 ≤ i ∧ i ≤ 1000000) ∧ ds.length < 16000000 then .val .non (s.set k (.lst (ds.take i.toNat ++ [y] ++ ds.drop i.toNat))) else .stuck
      | _ => .stuck
    | _ => .stuck
  | _ => .stuck
def rIns : V → List V → Hp → VK → Prop := fun x vs H Q => ∃ (l : Addr) (xs : List V) (i : Int) (y : V), x = .ref l ∧ vs = [.int i, y] ∧ H l = some (.lst xs) ∧ xs.length < sizeLine ∧ 0 ≤ i ∧ i < 2 ^ 63 ∧ Q .non (upd H l (.lst (xs.take i.toNat ++ [y] ++ xs.drop i.toNat)))
theorem mt_ins {X : Cx} : MtR X "list.insert" rIns := mt_insert
theorem ok_ins {K : PySem.W.Frag} : OkM K "list" rIns insG := fun Wx M ι s H x u xs us Q C rx rs P => by
  unfold insG at P
  split at P
  · rename_i i y
    split at P
    · rename_i k
      split at P
      · rename_i ds e
        split at P
        · rename_i hc
          obtain ⟨w, z, rfl, rd, rz⟩ := rs.two
          obtain ⟨a, rfl, hk⟩ := rx
          obtain ⟨hM, vs, h1, r1⟩ := C.obs k a _ hk e
          obtain ⟨C2, t2⟩ := C.put (o := .lst (vs.take i.toNat ++ [z] ++ vs.drop i.toNat)) (u := .lst (ds.take i.toNat ++ [y] ++ ds.drop i.toNat)) hk hM ⟨hM, _, upd_same, ((r1.take _).append (.cons rz .nil)).append (r1.drop _)⟩
          exact ⟨a, vs, i, z, rfl, by rw [rd.int], h1, by rw [r1.length]; exact lim_lt hc.2, hc.1.1, by omega, P _ _ _ _ t2 C2 rf_non⟩
        · exact P.elim
      · exact P.elim
    · exact P.elim
  · exact P.elim
/-- list(x), a list of one's own -/
def listO (s : Sto) : List D → O D
  | [x] => match view s x with
    | .lst ds => .val (.ob s.length) (s ++ [.lst ds])
    | .tup ds => .val (.ob s.length) (s ++ [.lst ds])
    | _ => .stuck
  | _ => .stuck
theorem ok_listO {K : PySem.W.Frag} : OkN K (rListU K) listO := fun Wx M ι s H xs us Q C r P => by
  unfold listO at P
  split at P
  · obtain ⟨u, rfl, rx⟩ := r.one
    have s1 := C.sees rx
    split at P
    · rename_i ds e
      rw [e] at s1
      obtain ⟨a, vs, rfl, h1, r1⟩ := s1
      exact ⟨a, vs, rfl, .inl (SqL.of h1), fun l hl => Post.laidO P C (Reps.of r1) hl⟩
    · rename_i ds e
      rw [e] at s1
      obtain ⟨a, vs, rfl, h1, r1⟩ := s1.tup
      exact ⟨a, vs, rfl, .inr (Ex.t C.sub h1.sq), fun l hl => Post.laidO P C (Reps.of r1) hl⟩
    · exact P.elim
  · exact P.elim
/-- x + y of lists, a list of one's own -/
def addO : Op2 := fun s x y => match view s x, view s y with
  | .lst a, .lst b => if a.length + b.length ≤ 16000000 then .val (.ob s.length) (s ++ [.lst (a ++ b)]) else .stuck
  | _, _ => .stuck
theorem ok_addO {K : PySem.W.Frag} : Ok2 K (rAddU K) addO := fun Wx M ι s H x y u v Q C rx ry P => by
  have s1 := C.sees rx
  have s2 := C.sees ry
  unfold addO at P
  split at P
  · rename_i a b e1 e2
    rw [e1] at s1; rw [e2] at s2
    split at P
    · rename_i hl
      obtain ⟨p, vs, rfl, h1, r1⟩ := s1
      obtain ⟨q, us, rfl, h2, r2⟩ := s2
      exact .inr (.inl ⟨p, q, vs, us, rfl, rfl, h1, h2, by rw [r1.length, r2.length]; exact lim_le hl, fun l hl => Post.laidO P C (Reps.of (r1.append r2)) hl⟩)
    · exact P.elim
  · exact P.elim
section
variable {X : Cx} {cl : Nat → Value} {W : WX} {e : Expr} {fa : EF}
/-- x[::-1] of a list, a list of one's own -/
def revO (fa : EF) : EF := fun δ s => (fa δ s).bind fun x s1 => match x with
  | .lst ds => .val (.ob s1.length) (s1 ++ [.lst ds.reverse])
  | .ob k => match s1[k]? with
    | some (.lst ds) => .val (.ob s1.length) (s1 ++ [.lst ds.reverse])
    | _ => .stuck
  | _ => .stuck
theorem je_revO {k : Nat} {p1 p2 p3 pos : Pos} (he : JE X cl W e fa) : JE X cl W (.Subscript e (.Slice none none (some (.UnaryOp .USub (.Constant (.int 1) k p1) p2)) p3) pos) (revO fa) := (pe_revL he).imp fun σ H Q h => by
  obtain ⟨M, ι, δ, s, C, S, P⟩ := h
  refine ⟨M, ι, δ, s, C, S, Post.mono (Post.bind (Rep X.K) P) fun u H1 m => ?_⟩
  obtain ⟨M1, ι1, x, s1, t1, C1, r1, P1⟩ := m.ex
  split at P1
  · rename_i ds
    obtain ⟨a, vs, rfl, h1, r2⟩ := r1.lst
    exact ⟨a, vs, rfl, SqL.of (C1.sub _ _ h1), fun p hp => Post.laidO P1 C1 (Reps.of r2).rev hp⟩
  · rename_i k
    split at P1
    · rename_i ds e
      obtain ⟨a, rfl, hk⟩ := r1
      obtain ⟨hM, vs, h1, r2⟩ := C1.obs k a _ hk e
      exact ⟨a, vs, rfl, SqL.of h1, fun p hp => Post.laidO P1 C1 r2.rev hp⟩
    · exact P1.elim
  · exact P1.elim
end
end Fl
set_option Elab.async false
set_option linter.all false
set_option maxRecDepth 100000
namespace Fl
open PySem PySem.Spec PyProof.Rows L2
/-! ### a head with tuples of texts among the module's constants -/
abbrev TbD : Type := List (Str × List (List Nat))
def obsT (fa : List He.Fa) (fn : List He.DefD) (tb : TbD) (K : PySem.W.Frag) : He.AlD × Bool := (He.obsD fa fn K, tb.all fun t => He.tupB K t.1 (t.2.map fun c => He.Dv.str ⟨c.toArray⟩))
def SaysT (fa : List He.Fa) (fn : List He.DefD) (tb : TbD) (K : PySem.W.Frag) : Prop := obsT fa fn tb K = (He.valD fn, true)
def obsTG (n : Nat) (fa : List He.Fa) (fn : List He.DefD) (tb : TbD) (g : Addr → Option Obj) : He.AlD × Bool := obsT fa fn tb (He.frG g (He.asD g n))
def hookT (n : Nat) (fa : List He.Fa) (fn : List He.DefD) (tb : TbD) : PySem.W.Hook where
  α := He.AlD × Bool
  obs := fun s => obsTG n fa fn tb s.heap.get?
  val := fun _ => (He.valD fn, true)
  says := fun _ h => ∃ K : PySem.W.Frag, K.In h ∧ SaysT fa fn tb K
  of := fun _ _ e => ⟨_, He.frG_in, e⟩
  keeps := fun _ _ _ ⟨K, hK, c⟩ k => ⟨K, PySem.W.Frag.In.keeps hK k, c⟩
theorem obsTG_eq {n : Nat} {fa : List He.Fa} {fn : List He.DefD} {tb : TbD} {g : Addr → Option Obj} {s : Shared} (h : ∀ a, g a = s.heap.get? a) : obsTG n fa fn tb g = (hookT n fa fn tb).obs s := by
  have e : g = s.heap.get? := funext h
  rw [e]; rfl
theorem SaysT.d {fa : List He.Fa} {fn : List He.DefD} {tb : TbD} {K : PySem.W.Frag} (c : SaysT fa fn tb K) : He.SaysD fa fn K := congrArg Prod.fst c
theorem SaysT.tup {fa : List He.Fa} {fn : List He.DefD} {tb : TbD} {K : PySem.W.Frag} (c : SaysT fa fn tb K) (i : Nat) {t : Str × List (List Nat)} (h : tb[i]? = some t := by rfl) : KT K (He.ga K t.1) (t.2.map fun c => V.str ⟨c.toArray⟩) := by
  have c2 : (tb.all fun t => He.tupB K t.1 (t.2.map fun c => He.Dv.str ⟨c.toArray⟩)) = true := congrArg Prod.snd c
  have h1 := He.tupB_ok (List.all_eq_true.mp c2 t (List.mem_of_getElem? h)) (fun _ => none)
  rw [List.map_map] at h1
  rcases h1 with h1 | h1
  · rcases h1 with h1 | ⟨o, h1⟩ <;> cases h1
  · obtain ⟨o, its, n, q1, q2, q3, q4, q5⟩ := h1
    exact ⟨o, its, n, q1, q2, q3, q4, q5⟩
section
variable {X : Cx} {cl : Nat → Value} {W : WX}
theorem je_globT {x : Str} {cs : List (List Nat)} {pos : Pos} (hm : ∃ a, X.mg x = some (.ref a) ∧ KT X.K a (cs.map fun c => V.str ⟨c.toArray⟩)) (hg : Gl X x) (ok : (cs.all okS) = true := by decide) (hd : (x == ("__debug__" : Str)) = false := by decide) : JE X cl W (.Name x pos) (cF (.tup (cs.map D.str))) := by
  obtain ⟨a, h1, h2⟩ := hm
  refine je_glob (v := .ref a) hg h1 rfl (fun M ι => Rep.of ?_) hd
  unfold RepF
  refine ⟨a, _, rfl, .inr h2, ?_⟩
  have key : ∀ cs : List (List Nat), (cs.all okS) = true → RepL X.K M (cs.map D.str) (cs.map fun c => V.str ⟨c.toArray⟩) := by
    intro cs
    induction cs with
    | nil => intro _; exact .nil
    | cons c cs ih =>
      intro h
      simp only [List.all_cons, Bool.and_eq_true] at h
      refine .cons ?_ (ih h.2)
      unfold RepF
      exact ⟨rfl, h.1⟩
  exact key cs ok
end
end Fl
set_option Elab.async false
set_option linter.all false
set_option maxRecDepth 100000
/-! objects of the program's classes: attributes, methods, making; own exceptions: raise, try. -/
namespace Fl
open PySem PySem.Spec PyProof.Rows L2
theorem zip_lookup {f : Str} {v : V} : ∀ {ns : List Str} {vs : List V} {i : Nat}, ns.Nodup → ns[i]? = some f → vs[i]? = some v → (ns.zip vs).lookup f = some v
  | [], _, _, _, h, _ => by simp at h
  | n :: ns, [], _, _, _, h => by simp at h
  | n :: ns, u :: vs, 0, _, h1, h2 => by
    simp at h1 h2; subst h1 h2
    simp [List.lookup]
  | n :: ns, u :: vs, i + 1, hn, h1, h2 => by
    simp at h1 h2
    have hn' := List.nodup_cons.mp hn
    have hne : f ≠ n := fun e => hn'.1 (e ▸ List.mem_of_getElem? h1)
    have hb : (f == n) = false := beq_eq_false_iff_ne.mpr hne
    simp only [List.zip_cons_cons, List.lookup, hb]
    exact zip_lookup hn'.2 h1 h2
theorem zip_none {f : Str} : ∀ {ns : List Str} {vs : List V}, f ∉ ns → (ns.zip vs).lookup f = none
  | [], _, _ => rfl
  | n :: ns, [], _ => rfl
  | n :: ns, u :: vs, h => by
    simp at h
    have hb : (f == n) = false := beq_eq_false_iff_ne.mpr h.1
    simp only [List.zip_cons_cons, List.lookup, hb]
    exact zip_none h.2
theorem zip_put {f : Str} {v : V} : ∀ {ns : List Str} {vs : List V} {i : Nat}, ns.Nodup → ns[i]? = some f → i < vs.length → putF f v (ns.zip vs) = ns.zip (vs.set i v)
  | [], _, _, _, h, _ => by simp at h
  | n :: ns, [], _, _, _, h => by simp at h
  | n :: ns, u :: vs, 0, _, h1, _ => by
    simp at h1; subst h1
    simp [putF]
  | n :: ns, u :: vs, i + 1, hn, h1, h2 => by
    simp at h1 h2
    have hn' := List.nodup_cons.mp hn
    have hne : n ≠ f := fun e => hn'.1 (e.symm ▸ List.mem_of_getElem? h1)
    simp only [List.zip_cons_cons, putF, if_neg hne, List.set_cons_succ]
    rw [zip_put hn'.2 h1 h2]
theorem zip_app {f : Str} {v : V} : ∀ {ns : List Str} {vs : List V}, ns.Nodup → ns[vs.length]? = some f → putF f v (ns.zip vs) = ns.zip (vs ++ [v])
  | [], _, _, h => by simp at h
  | n :: ns, [], _, h => by
    simp at h; subst h
    simp [putF]
  | n :: ns, u :: vs, hn, h => by
    simp at h
    have hn' := List.nodup_cons.mp hn
    have hne : n ≠ f := fun e => hn'.1 (e.symm ▸ List.mem_of_getElem? h)
    simp only [List.zip_cons_cons, putF, if_neg hne, List.cons_append]
    rw [zip_app hn'.2 h]
theorem fnames_nd : ∀ c : Nat, (fnames c).Nodup
  | 0 => by decide
  | 1 => by decide
  | _ + 2 => by show (["days", "held", "letters", "earlier"] : List Str).Nodup; decide
theorem fnames_len : ∀ c : Nat, (fnames c).length ≤ 4
  | 0 => by decide
  | 1 => by decide
  | _ + 2 => Nat.le_refl 4
/-- what of the text a class must have -/
structure ClsOk (K : PySem.W.Frag) (c : Nat) : Prop where
  cls : Cls K (He.ga K (cname c))
  na : ∀ f ∈ fnames c, NoAttr K (He.ga K (cname c)) f
/-! ### attributes -/
def fldF (c i : Nat) (fa : EF) : EF := fun δ s => (fa δ s).bind fun x s1 => match x with
  | .ob k => match s1[k]? with
    | some (.ins c' ds) => if c' = c then match ds[i]? with
      | some d => .val d s1
      | none => .stuck
      else .stuck
    | _ => .stuck
  | _ => .stuck
def setF (c i : Nat) (fo fv : EF) : SF := fun δ s => (fv δ s).go δ fun y s1 => (fo δ s1).go δ fun x s2 => match x with
  | .ob k => match s2[k]? with
    | some (.ins c' ds) => if c' = c then
        (if i < ds.length then .nx δ (s2.set k (.ins c (ds.set i y))) else if i = ds.length then .nx δ (s2.set k (.ins c (ds ++ [y]))) else .stuck)
      else .stuck
    | _ => .stuck
  | _ => .stuck
section
variable {X : Cx} {cl : Nat → Value} {W : WX} {e o value : Expr} {f : Str} {pos pos' : Pos} {fa fo fv : EF} {c : Nat}
theorem je_fld (i : Nat) (hc : ClsOk X.K c) (he : JE X cl W e fa) (hf : (fnames c)[i]? = some f := by rfl) (hab : attributeBase e f X.env (eval e X.env) = eval e X.env := by rfl) : JE X cl W (.Attribute e f pos) (fldF c i fa) := (pe_fld he hab).imp fun σ H Q h => by
  obtain ⟨M, ι, δ, s, C, S, P⟩ := h
  refine ⟨M, ι, δ, s, C, S, Post.mono (Post.bind (Rep X.K) P) fun u H1 m => ?_⟩
  obtain ⟨M1, ι1, x, s1, t1, C1, r1, P1⟩ := m.ex
  split at P1
  · rename_i k
    split at P1
    · rename_i c' ds e
      split at P1
      · rename_i hcc
        subst hcc
        split at P1
        · rename_i d hd
          obtain ⟨a, rfl, hk⟩ := r1
          obtain ⟨hM, dx, vs, h1, r2⟩ := C1.obs k a _ hk e
          obtain ⟨v, h2, h3⟩ := r2.get hd
          exact ⟨a, _, dx, _, v, rfl, h1, hc.cls, hc.na f (List.mem_of_getElem? hf), zip_lookup (fnames_nd c') hf h2, P1.now C1 h3⟩
        · exact P1.elim
      · exact P1.elim
    · exact P1.elim
  · exact P1.elim
theorem js_fld (i : Nat) (hc : ClsOk X.K c) (ho : JE X cl W o fo) (hv : JE X cl W value fv) (hf : (fnames c)[i]? = some f := by rfl) (hs : swapsWith value (some (.Attribute o f pos')) pos.line X.env = pure false := by rfl) :
    JS X cl W (.Assign [.Attribute o f pos'] value pos) (setF c i fo fv) := (ps_fld ho hv hs).imp fun D σ H h => by
  obtain ⟨M, ι, δ, s, C, S, P⟩ := h
  refine ⟨M, ι, δ, s, C, S, Post.mono (PostS.go (Rep X.K) S P) fun y H1 m => ?_⟩
  obtain ⟨M1, ι1, yd, s1, t1, C1, ry, P1⟩ := m.ex
  refine ⟨M1, ι1, δ, s1, C1, S.step t1, Post.mono (PostS.go (Rep X.K) (S.step t1) P1) fun x H2 m2 => ?_⟩
  obtain ⟨M2, ι2, xd, s2, t2, C2, rx, P2⟩ := m2.ex
  have ry2 := ry.step t2
  split at P2
  · rename_i k
    split at P2
    · rename_i c' ds e
      split at P2
      · rename_i hcc
        subst hcc
        obtain ⟨a, rfl, hk⟩ := rx
        obtain ⟨hM, dx, vs, h1, r2⟩ := C2.obs k a _ hk e
        have hl : ((fnames c').zip vs).length < 1000 := by
          have := fnames_len c'
          rw [List.length_zip]; omega
        refine ⟨a, _, dx, _, rfl, h1, hc.cls, hc.na f (List.mem_of_getElem? hf), hl, ?_⟩
        split at P2
        · rename_i hi
          rw [zip_put (fnames_nd c') hf (by rw [r2.length]; exact hi)]
          obtain ⟨C3, t3⟩ := C2.put (o := .ins (He.ga X.K (cname c')) dx ((fnames c').zip (vs.set i y))) (u := .ins c' (ds.set i yd)) hk hM ⟨hM, dx, _, upd_same, r2.set ry2 i⟩
          exact P2 _ _ _ _ t3 C3 (((S.step t1).step t2).step t3)
        · split at P2
          · rename_i hi
            rw [zip_app (fnames_nd c') (by rw [r2.length, ← hi]; exact hf)]
            obtain ⟨C3, t3⟩ := C2.put (o := .ins (He.ga X.K (cname c')) dx ((fnames c').zip (vs ++ [y]))) (u := .ins c' (ds ++ [yd])) hk hM ⟨hM, dx, _, upd_same, r2.append (.cons ry2 .nil)⟩
            exact P2 _ _ _ _ t3 C3 (((S.step t1).step t2).step t3)
          · exact P2.elim
      · exact P2.elim
    · exact P2.elim
  · exact P2.elim
end
/-! ### methods -/
def tMethS (C : Addr) (m : Str) (sp : Sp) (E : L2.St → XK) (ta : TE) (t : TA) : TE := fun σ H Q => ta σ H fun x H1 => ∃ a dx fs, x = .ref a ∧ H1 a = some (.ins C dx fs) ∧ fs.lookup m = none ∧ t σ H1 fun vs H2 => sp (x :: vs) H2 Q (E σ)
def tMakeS (C : Addr) (sp : Sp) (E : L2.St → XK) (t : TA) : TE := fun σ H Q => t σ H fun vs H1 => ∀ x dx, H1 x = none → H1 dx = none → dx ≠ x →
  sp (.ref x :: vs) (upd (upd H1 dx (.own x)) x (.ins C dx [])) (fun v H2 => v = .non ∧ Q (.ref x) H2) (E σ)
section
variable {X : Cx} {CX : CXT} {k : Nat} {f C : Addr} {fd : FuncData} {ps : List Str} {sp : Sp} {E : L2.St → XK} {x m : Str} {p pos apos : Pos} {e o : Expr} {es : List Expr} {ta : TE} {t : TA}
theorem pe_methSS {pl : Sem Bool} (he : PE X o ta) (c : Cls X.K C) (hm : Meth X.K C m f) (F : FnOk X.prog X.w X.K X.mg X.base CX k f fd ps sp) (hr : Room k X.A) (hb : Binds X.K fd ps []) (hx : ∀ σ, PassesAt CX X σ (E σ)) (ha : PA X (e :: es) t)
    (hst : starEach (e :: es) X.env = (false, eval e X.env) :: starEach es X.env := by rfl) (hpl : (backTo pos (starEach es X.env)).any (·.1) = false := by rfl)
    (ht : eval (.Call (.Attribute o m apos) (e :: es) [] pos) X.env = (do
      let ov ← eval o X.env
      standAt apos.atName
      let (f, first) ← holding [ov] (getMethod ov m pl)
      callWith pos f first (backTo pos (starEach (e :: es) X.env)) (backToKw pos (keywordEach [] X.env))) := by rfl) :
    PE X (.Call (.Attribute o m apos) (e :: es) [] pos) (tMethS C m sp E ta t) := by
  refine ⟨fun pins s σ H Q I h => ?_⟩
  refine PySem.W.methodCall_KW (pl := pl) (thn (he.run pins s σ H _ I h) fun u s1 ⟨x, H1, I1, rx, a, dx, fs, ex, ea, l, q⟩ => ?_) ht
  subst ex
  obtain rfl : u = Value.ref a := rx
  refine getmeth_ok I1 ea c hm l ?_
  refine PySem.W.callWith_K (first := [.ref a]) (h₀ := X.base) I.ok.mod.kin hm.kp (thn (ha.run pos pins s1 σ H1 _ I1 q) fun us s2 ⟨vs, H2, I2, r, q2⟩ => ⟨I2.kIn, ?_⟩) hst hpl
  exact run_fnS (us := .ref a :: us) (vs := .ref a :: vs) F hr hb (hx σ) I2 (.cons rfl r) q2
theorem pe_methSS0 {pl : Sem Bool} (he : PE X o ta) (c : Cls X.K C) (hm : Meth X.K C m f) (F : FnOk X.prog X.w X.K X.mg X.base CX k f fd ps sp) (hr : Room k X.A) (hb : Binds X.K fd ps []) (hx : ∀ σ, PassesAt CX X σ (E σ))
    (ht : eval (.Call (.Attribute o m apos) [] [] pos) X.env = (do
      let ov ← eval o X.env
      standAt apos.atName
      let (f, first) ← holding [ov] (getMethod ov m pl)
      callWith pos f first (backTo pos (starEach [] X.env)) (backToKw pos (keywordEach [] X.env))) := by rfl) :
    PE X (.Call (.Attribute o m apos) [] [] pos) (tMethS C m sp E ta tNil) := by
  refine ⟨fun pins s σ H Q I h => ?_⟩
  refine PySem.W.methodCall_KW (pl := pl) (thn (he.run pins s σ H _ I h) fun u s1 ⟨x, H1, I1, rx, a, dx, fs, ex, ea, l, q⟩ => ?_) ht
  subst ex
  obtain rfl : u = Value.ref a := rx
  refine getmeth_ok I1 ea c hm l ?_
  exact PySem.W.callWith_K0 (first := [.ref a]) I1.kIn hm.kp (run_fnS (us := [.ref a]) (vs := [.ref a]) F hr hb (hx σ) I1 (.cons rfl .nil) q)
theorem run_makeS {pins : List (Addr × Obj)} {σ : L2.St} {H : Hp} {s : Shared} {Q : VK} {us : List Value} {vs : List V} (M : Mk X.K C f) (F : FnOk X.prog X.w X.K X.mg X.base CX k f fd ps sp) (hr : Room (k + 1) X.A) (hb : Binds X.K fd ps [])
    (hx : PassesAt CX X σ (E σ)) (I : Inv X pins σ H s) (r : Vals vs us)
    (h : ∀ x dx, H x = none → H dx = none → dx ≠ x → sp (.ref x :: vs) (upd (upd H dx (.own x)) x (.ins C dx [])) (fun v H2 => v = .non ∧ Q (.ref x) H2) (E σ)) :
    wpAny (model X.prog X.w) X.A (call (.ref C) us) (EP X pins σ Q) X.xe s := by
  have hq := h (s.heap.objs.size + 1) s.heap.objs.size (I.hok.fresh (Nat.le_succ _)) (I.hok.fresh (Nat.le_refl _)) (Nat.ne_of_lt (Nat.lt_succ_self _))
  have I2 := Inv.made (C := C) I
  have r2 : Vals (V.ref (s.heap.objs.size + 1) :: vs) (Value.ref (s.heap.objs.size + 1) :: us) := .cons rfl r
  have hl : (Value.ref (s.heap.objs.size + 1) :: us).length = ps.length := by
    have e := r2.length
    rw [F.len _ _ _ _ hq] at e
    exact e.symm
  have b := hb _ (Value.ref (s.heap.objs.size + 1) :: us) I2.kIn (by rw [List.append_nil]; exact hl)
  rw [List.append_nil] at b
  refine wpAny_call (make_map (f := f) I.kIn M.makes M.init (beq_iff_eq.mp M.fn) (codeAny_mono (F.run _ X.stack _ _ ⟨Value.ref (s.heap.objs.size + 1) :: us, []⟩ (Value.ref (s.heap.objs.size + 1) :: us) _ _ (E σ) (hr.make C us [])
    (I2.env0.make C us []) b r2 hq) fun r s' hq' => ?_))
  cases r with
  | error e => exact hx pins _ _ e s' I2 hq'
  | ok fl =>
    cases fl with
    | ret u =>
      obtain ⟨v, H', I3, rv, ev, q3⟩ := I2.after hq'
      subst ev
      exact ⟨rv, ⟨V.ref (s.heap.objs.size + 1), H', I3, rfl, q3⟩⟩
    | next => exact False.elim hq'
    | brk => exact False.elim hq'
    | cont => exact False.elim hq'
theorem pe_makeS (M : Mk X.K C f) (F : FnOk X.prog X.w X.K X.mg X.base CX k f fd ps sp) (hr : Room (k + 1) X.A) (hg : Gl X x) (hm : X.mg x = some (.ref C)) (hb : Binds X.K fd ps []) (hx : ∀ σ, PassesAt CX X σ (E σ))
    (ha : PA X (e :: es) t) (hdb : (x == ("__debug__" : Str)) = false := by decide) (he : starEach (e :: es) X.env = (false, eval e X.env) :: starEach es X.env := by rfl) (hpl : (backTo pos (starEach es X.env)).any (·.1) = false := by rfl) :
    PE X (.Call (.Name x p) (e :: es) [] pos) (tMakeS C sp E t) := by
  refine ⟨fun pins s σ H Q I h => ?_⟩
  refine wpAny_Call_Name_kw (ld_glob I hg hm ?_ hdb)
  refine PySem.W.callWith_K (h₀ := X.base) I.ok.mod.kin M.kp (thn (ha.run pos pins s σ H _ I h) fun us s1 ⟨vs, H1, I1, r, q⟩ => ⟨I1.kIn, ?_⟩) he hpl
  exact run_makeS M F hr hb (hx σ) I1 r q
end
section
variable {P : Program} {w : World} {K : PySem.W.Frag} {mg : Str → Option Value} {base : Heap} {cl : Nat → Value}
/-- a method of the class c -/
structure JMt (P : Program) (w : World) (K : PySem.W.Frag) (mg : Str → Option Value) (base : Heap) (cl : Nat → Value) (k c : Nat) (m : Str) (n : Nat) (F : FF) : Prop where
  ex : ∃ f : Addr, Meth K (He.ga K (cname c)) m f ∧ JAt P w K mg base cl k f n F
/-- the class c, made -/
structure JMk (P : Program) (w : World) (K : PySem.W.Frag) (mg : Str → Option Value) (base : Heap) (cl : Nat → Value) (k c n : Nat) (F : FF) : Prop where
  ex : ∃ f : Addr, mg (cname c) = some (.ref (He.ga K (cname c))) ∧ Mk K (He.ga K (cname c)) f ∧ JAt P w K mg base cl k f n F
end
def methF (c n : Nat) (F : FF) (fo : EF) (fr : AF) : EF := fun δ s => (fo δ s).bind fun x s1 => match x with
  | .ob k => match s1[k]? with
    | some (.ins c' _) => if c' = c then (fr δ s1).bind fun xs s2 => if xs.length + 1 = n then F (.ob k :: xs) s2 else .stuck else .stuck
    | _ => .stuck
  | _ => .stuck
def makeF (c n : Nat) (F : FF) (fr : AF) : EF := fun δ s => (fr δ s).bind fun xs s1 => if xs.length + 1 = n then (F (.ob s1.length :: xs) (s1 ++ [.ins c []])).bind fun d s2 => match d with
  | .non => .val (.ob s1.length) s2
  | _ => .stuck
  else .stuck
section
variable {X : Cx} {cl : Nat → Value} {W : WX} {o e : Expr} {es : List Expr} {x m : Str} {p pos apos : Pos} {fo : EF} {fr : AF} {c n k j : Nat} {F : FF}
theorem je_meth {pl : Sem Bool} (J : JMt X.prog X.w X.K X.mg X.base cl k c m n F) (hc : ClsOk X.K c) (hr : Room j X.A) (hk : k ≤ j) (tk : Takes X W) (ho : JE X cl W o fo) (ha : JA X cl W (e :: es) fr) (hm : m ∉ fnames c := by decide)
    (hst : starEach (e :: es) X.env = (false, eval e X.env) :: starEach es X.env := by rfl) (hpl : (backTo pos (starEach es X.env)).any (·.1) = false := by rfl)
    (ht : eval (.Call (.Attribute o m apos) (e :: es) [] pos) X.env = (do
      let ov ← eval o X.env
      standAt apos.atName
      let (f, first) ← holding [ov] (getMethod ov m pl)
      callWith pos f first (backTo pos (starEach (e :: es) X.env)) (backToKw pos (keywordEach [] X.env))) := by rfl) :
    JE X cl W (.Call (.Attribute o m apos) (e :: es) [] pos) (methF c n F fo fr) := by
  obtain ⟨f, hM, J⟩ := J.ex
  obtain ⟨fd, ps, kp, b, G⟩ := J.ex
  refine (pe_methSS (pl := pl) ho hc.cls hM G (hr.mono hk) b (fun σ => passAt tk σ) ha hst hpl ht).imp fun σ H Q h => ?_
  obtain ⟨M, ι, δ, s, C, S, Pq⟩ := h
  refine ⟨M, ι, δ, s, C, S, Post.mono (Post.bind (Rep X.K) Pq) fun u H1 m1 => ?_⟩
  obtain ⟨M1, ι1, xd, s1, t1, C1, r1, P1⟩ := m1.ex
  split at P1
  · rename_i kk
    split at P1
    · rename_i c' ds ee
      split at P1
      · rename_i hcc
        subst hcc
        obtain ⟨a, rfl, hk2⟩ := r1
        obtain ⟨hM1, dx, vs, h1, r2⟩ := C1.obs kk a _ hk2 ee
        refine ⟨a, dx, _, rfl, h1, zip_none hm, M1, ι1, δ, s1, C1, S.step t1, Post.mono (Post.bind (Reps X.K) P1) fun us H2 m2 => ?_⟩
        obtain ⟨M2, ι2, xs, s2, t2, C2, r3, P2⟩ := m2.ex
        split at P2
        · rename_i hn
          have ro : Rep X.K M2 ι2 (.ob kk) (.ref a) := ⟨a, rfl, t2.ii _ _ hk2⟩
          exact ⟨M2, ι2, s2, .ob kk :: xs, C2, .cons ro r3, by simpa using hn, P2⟩
        · exact P2.elim
      · exact P1.elim
    · exact P1.elim
  · exact P1.elim
theorem je_meth0 {pl : Sem Bool} (J : JMt X.prog X.w X.K X.mg X.base cl k c m n F) (hc : ClsOk X.K c) (hr : Room j X.A) (hk : k ≤ j) (tk : Takes X W) (ho : JE X cl W o fo) (hm : m ∉ fnames c := by decide)
    (ht : eval (.Call (.Attribute o m apos) [] [] pos) X.env = (do
      let ov ← eval o X.env
      standAt apos.atName
      let (f, first) ← holding [ov] (getMethod ov m pl)
      callWith pos f first (backTo pos (starEach [] X.env)) (backToKw pos (keywordEach [] X.env))) := by rfl) :
    JE X cl W (.Call (.Attribute o m apos) [] [] pos) (methF c n F fo nil) := by
  obtain ⟨f, hM, J⟩ := J.ex
  obtain ⟨fd, ps, kp, b, G⟩ := J.ex
  refine (pe_methSS0 (pl := pl) ho hc.cls hM G (hr.mono hk) b (fun σ => passAt tk σ) ht).imp fun σ H Q h => ?_
  obtain ⟨M, ι, δ, s, C, S, Pq⟩ := h
  refine ⟨M, ι, δ, s, C, S, Post.mono (Post.bind (Rep X.K) Pq) fun u H1 m1 => ?_⟩
  obtain ⟨M1, ι1, xd, s1, t1, C1, r1, P1⟩ := m1.ex
  split at P1
  · rename_i kk
    split at P1
    · rename_i c' ds ee
      split at P1
      · rename_i hcc
        subst hcc
        obtain ⟨a, rfl, hk2⟩ := r1
        obtain ⟨hM1, dx, vs, h1, r2⟩ := C1.obs kk a _ hk2 ee
        refine ⟨a, dx, _, rfl, h1, zip_none hm, ?_⟩
        simp only [nil, O.bind_val] at P1
        split at P1
        · rename_i hn
          exact ⟨M1, ι1, s1, [.ob kk], C1, .cons ⟨a, rfl, hk2⟩ .nil, by simpa using hn, P1⟩
        · exact P1.elim
      · exact P1.elim
    · exact P1.elim
  · exact P1.elim
theorem je_make (hx : cname c = x) (J : JMk X.prog X.w X.K X.mg X.base cl k c n F) (hr : Room j X.A) (hk : k + 1 ≤ j) (tk : Takes X W) (hg : Gl X x) (ha : JA X cl W (e :: es) fr)
    (hdb : (x == ("__debug__" : Str)) = false := by decide) (he : starEach (e :: es) X.env = (false, eval e X.env) :: starEach es X.env := by rfl) (hpl : (backTo pos (starEach es X.env)).any (·.1) = false := by rfl) :
    JE X cl W (.Call (.Name x p) (e :: es) [] pos) (makeF c n F fr) := by
  subst hx
  obtain ⟨f, hm, hM, J⟩ := J.ex
  obtain ⟨fd, ps, kp, b, G⟩ := J.ex
  refine (pe_makeS hM G (hr.mono hk) hg hm b (fun σ => passAt tk σ) ha hdb he hpl).imp fun σ H Q h => ?_
  obtain ⟨M, ι, δ, s, C, S, Pq⟩ := h
  refine ⟨M, ι, δ, s, C, S, Post.mono (Post.bind (Reps X.K) Pq) fun us H1 m1 => ?_⟩
  obtain ⟨M1, ι1, xs, s1, t1, C1, r1, P1⟩ := m1.ex
  intro x dx hx hdx hne
  split at P1
  · rename_i hn
    obtain ⟨Ca, ta⟩ := C1.over (o := .own x) hdx
    have hx2 : (upd H1 dx (.own x)) x = none := by rw [upd_ne (Ne.symm hne)]; exact hx
    obtain ⟨Cb, tb⟩ := Ca.over (o := .ins (He.ga X.K (cname c)) dx []) hx2
    obtain ⟨hMx, hιx⟩ := Ca.fresh hx2
    have Cc := Cb.join (u := .ins c []) hιx ⟨hMx, dx, [], by rw [upd_same]; simp, .nil⟩
    have tc : Step M1 ι1 H1 M1 (ι1 ++ [x]) (upd (upd H1 dx (.own x)) x (.ins (He.ga X.K (cname c)) dx [])) := by
      have t0 := ta.trans tb
      refine ⟨t0.mm, fun k a h => ii_app k a h, t0.fr, fun a h => ?_, t0.mn⟩
      rcases List.mem_append.mp h with q | q
      · exact .inl q
      · obtain rfl : a = x := by simpa using q
        exact .inr hx
    have hlen : (ι1 ++ [x])[s1.length]? = some x := by rw [← C1.len]; simp
    have ro : Rep X.K M1 (ι1 ++ [x]) (.ob s1.length) (.ref x) := ⟨x, rfl, hlen⟩
    refine ⟨M1, ι1 ++ [x], _, .ob s1.length :: xs, Cc, .cons ro (r1.step tc), by simpa using hn, ?_⟩
    refine Post.mono (Post.bind (Rep X.K) (Post.step P1 tc)) fun v H2 m2 => ?_
    obtain ⟨M2, ι2, d, s2, t2, C2, r2, P2⟩ := m2.ex
    split at P2
    · exact ⟨r2.non, P2.now C2 ⟨x, rfl, t2.ii _ _ hlen⟩⟩
    · exact P2.elim
  · exact P1.elim
end
end Fl
set_option Elab.async false
set_option linter.all false
set_option maxRecDepth 100000
/-! own exceptions: raise, try; `in` by an own __contains__. -/
namespace Fl
open PySem PySem.Spec PyProof.Rows L2
/-- exception classes by number -/
def ename : Nat → Str
  | 0 => "InvalidRow"
  | 1 => "InvalidPromise"
  | 2 => "InvalidNumber"
  | 3 => "NoSuchDay"
  | 4 => "OtherLengths"
  | 5 => "Contradiction"
  | 6 => "TooMany"
  | 7 => "NothingToUndo"
  | _ => "DayError"
def clK (K : PySem.W.Frag) (c : Nat) : Value := .ref (He.ga K (ename c))
/-- what of the text an exception's class must have -/
structure ExcOk (K : PySem.W.Frag) (mg : Str → Option Value) (c : Nat) : Prop where
  gl : mg (ename c) = some (.ref (He.ga K (ename c)))
  ex : PySem.W.excIn K (He.ga K (ename c)) He.veBase "ValueError.__new__" = true
  kp : PySem.W.keepIn K (.ref (He.ga K (ename c))) = true
  sb : PySem.W.subIn K (.ref (He.ga K (ename c))) (.type "BaseException") = some true
  ty : PySem.W.typeIn K (.ref (He.ga K (ename c))) = some (.type "type")
def raiseS (c : Nat) : SF := fun δ s => .exc c δ s
/-- does the clause h take c -/
def takesC (h c : Nat) : Bool := decide (c = h) || decide (h = 8)
def pickC (c : Nat) : List (Nat × SF) → Option SF
  | [] => none
  | (h, g) :: r => if takesC h c = true then some g else pickC c r
def noXS : OS → OS
  | .exc _ _ _ => .stuck
  | o => o
theorem PostS.noXS {K : PySem.W.Frag} {cl cl' : Nat → Value} {W W' : WX} {D : Ends} {M : Hp} {ι : List Addr} {H : Hp} : ∀ {o : OS}, PostS K cl W D M ι H (noXS o) → PostS K cl' W' D M ι H o
  | .stuck, h => h
  | .nx _ _, h => h
  | .bk _ _, h => h
  | .ct _ _, h => h
  | .rt _ _, h => h
  | .exc _ _ _, h => h.elim
/-- what the clauses make of an exception -/
def pickS (l : List (Nat × SF)) (c : Nat) (δ : Sl) (s : Sto) : OS := match pickC c l with
  | some g => noXS (g δ s)
  | none => .exc c δ s
/-- try: body (it lets out exceptions among cs), except h: g, .. -/
def tryC (cs : List Nat) (f : SF) (hs : List (Nat × SF)) : SF := fun δ s => match f δ s with
  | .exc c δ' s' => if c ∈ cs then pickS hs c δ' s' else .stuck
  | o => o
/-- which exceptions may come where a clause is asked -/
structure TakesOk (K : PySem.W.Frag) (mg : Str → Option Value) (cs : List Nat) (h : Nat) : Prop where
  gl : mg (ename h) = some (.ref (He.ga K (ename h)))
  ex : ∀ c ∈ cs, PySem.W.exmOne K (clK K c) (clK K h) = some (takesC h c)
section
variable {X : Cx} {W : WX}
theorem js_raise {m : Str} {j : Nat} {p p2 pos pos' : Pos} {x : Str} (c : Nat) (hx : ename c = x) (T : ExcOk X.K X.mg c) (hc : X.calm = true := by rfl) (tk : Takes X W) (hg : Gl X x) (hdb : (x == ("__debug__" : Str)) = false := by decide) :
    JS X (clK X.K) W (.Raise (some (.Call (.Name x p) [.Constant (.str m) j p2] [] pos)) none pos') (raiseS c) := by
  subst hx
  refine (ps_raise hc tk (pmk_own PySem.F.excBase_ValueError T.ex T.gl T.kp (raises_own T.sb T.ty) hg hdb)).imp fun D σ H h => ?_
  obtain ⟨M, ι, δ, s, C, S, P⟩ := h
  exact P M ι H σ Step.refl C S
/-- the clauses -/
inductive JHs (X : Cx) (cs : List Nat) : List ExceptHandler → List (Nat × SF) → Prop
  | nil : JHs X cs [] []
  | cons {x : Str} {h : Nat} {g : SF} {b₀ : Stmt} {suite : List Stmt} {np pos' : Pos} {hds : List ExceptHandler} {l : List (Nat × SF)} (hx : ename h = x) (hg : Gl X x) (hdb : (x == ("__debug__" : Str)) = false) (T : TakesOk X.K X.mg cs h)
      (hsu : ∀ (a : Addr) (oe : Obj) (pn : List (Addr × Obj)), JSs (X.suite a ((a, oe) :: pn)) (clK X.K) (fun _ _ _ _ => False) (b₀ :: suite) g) (r : JHs X cs hds l) :
      JHs X cs (.ExceptHandler (some (.Name x np)) none (b₀ :: suite) pos' :: hds) ((h, g) :: l)
/-- .. as the rule wants them -/
def tsOf (K : PySem.W.Frag) (l : List (Nat × SF)) : List (Value × (Addr → Value → Option Addr → TS)) := l.map fun p => (clK K p.1, fun _ _ _ => rdS K (clK K) (fun _ _ _ _ => False) p.2)
theorem JHs.ok {X : Cx} {cs : List Nat} {hds : List ExceptHandler} {l : List (Nat × SF)} (h : JHs X cs hds l) : HdsOk X hds (tsOf X.K l) := by
  induction h with
  | nil => exact .nil
  | @cons x h g b₀ suite np pos' hds l hx hg hdb T hsu r ih =>
    subst hx
    exact .cons ⟨hg, hdb, .inl T.gl⟩ (fun a oe cls d pn _ _ => hsu a oe pn) ih
theorem wMany_of {K : PySem.W.Frag} {mg : Str → Option Value} {cs : List Nat} {W : WX} {D : Ends} {M : Hp} {ι : List Addr} {s : Sto} {H : Hp} {δ : Sl} {σ : L2.St} {c : Nat} (hcs : c ∈ cs) (C : Conc K M ι s H) (S : RepS K M ι δ σ) :
    ∀ {l : List (Nat × SF)}, (∀ p ∈ l, TakesOk K mg cs p.1) → PostS K (clK K) W D M ι H (pickS l c δ s) → wMany K W D (tsOf K l) (clK K c) none σ H
  | [], _, P => P M ι H σ Step.refl C S
  | (h, g) :: l, T, P => by
    refine ⟨_, (T _ (List.mem_cons_self ..)).ex c hcs, fun hb a ha => ?_, fun hb => ?_⟩
    · have hb' : takesC h c = true := hb
      unfold pickS pickC at P
      rw [if_pos hb'] at P
      exact ⟨M, ι, δ, s, C, S, PostS.noXS P⟩
    · have hb' : ¬ takesC h c = true := by
        have : takesC h c = false := hb
        rw [this]; exact Bool.false_ne_true
      unfold pickS pickC at P
      rw [if_neg hb'] at P
      exact wMany_of hcs C S (fun p hp => T p (List.mem_cons_of_mem _ hp)) P
theorem JHs.takes {X : Cx} {cs : List Nat} {hds : List ExceptHandler} {l : List (Nat × SF)} (h : JHs X cs hds l) : ∀ p ∈ l, TakesOk X.K X.mg cs p.1 := by
  induction h with
  | nil => intro p hp; cases hp
  | cons hx hg hdb T hsu r ih =>
    intro p hp
    rcases List.mem_cons.mp hp with rfl | hp
    · exact T
    · exact ih p hp
theorem js_try {cs : List Nat} {body : List Stmt} {h₀ : ExceptHandler} {hds : List ExceptHandler} {l : List (Nat × SF)} {pos : Pos} {f : SF} (hs : X.stack = X.env :: X.outer := by rfl) (hf : X.env.frame = some X.env.locals := by rfl) (tk : Takes X W)
    (hb : ∀ (W' : WX) (pn : List (Addr × Obj)) (xe : Value → Shared → Prop), Takes (X.tr pn xe) W' → PassesOwn (model X.prog X.w) X.A X.env xe → JSs (X.tr pn xe) (clK X.K) W' body f)
    (hh : JHs X cs (h₀ :: hds) l) : JS X (clK X.K) W (.Try body (h₀ :: hds) [] [] pos) (tryC cs f l) := by
  refine (ps_try_many (tb := fun W' => rdS X.K (clK X.K) W' f) hs hf tk hb hh.ok).imp fun D σ H h => ?_
  obtain ⟨M, ι, δ, s, C, S, P⟩ := h
  refine ⟨M, ι, δ, s, C, S, ?_⟩
  unfold tryC at P
  revert P
  cases f δ s with
  | exc c δ' s' =>
    intro P M' ι' H' σ' t C' S'
    have P2 := PostS.step P t
    by_cases hcs : c ∈ cs
    · simp only [if_pos hcs] at P2
      exact wMany_of hcs C' S' hh.takes P2
    · simp only [if_neg hcs] at P2; exact P2.elim
  | _ => exact fun P => P
end
/-! ### in, by an own __contains__ -/
section
variable {M : Model} {A : Around} {E : Value → Shared → Prop} {s : Shared} {K : PySem.W.Frag} {x C f : Addr} {ox : Obj} {od : Option Obj} {v : Value}
theorem contains_own {Q : Bool → Shared → Prop} (X : K.In s.heap) (I : PySem.W.InstAt s.heap x ox C od) (hs : PySem.W.findIn K (.ref C) "__contains__" = some (some (.ref f))) (hf : PySem.W.isFn K (.ref f) = true)
    (h : wpAny M A (call (.ref f) [.ref x, v]) (fun r s' => wpAny M A (truthy r) Q E s') E s) : wpAny M A (contains (.ref x) v) Q E s := by
  unfold contains
  refine wpAny_holding (wpAny_bind (wpAny_bind (I.type.here ((PySem.W.looks_findIn X hs).here ?_))))
  rw [if_neg (by simp)]
  exact wpAny_bind (PySem.W.unlessNone_K X I hs hf h)
end
/-- x in y, y of the class c, its __contains__ being F -/
def inO (n c : Nat) (F : FF) : Op2 := fun s x y => match y with
  | .ob k => match s[k]? with
    | some (.ins c' _) => if c' = c ∧ n = 2 then match F [.ob k, x] s with
      | .val (.bl b) s' => .val (.bl b) s'
      | _ => .stuck
      else .stuck
    | _ => .stuck
  | _ => .stuck
def ninO (n c : Nat) (F : FF) : Op2 := fun s x y => match inO n c F s x y with
  | .val (.bl b) s' => .val (.bl (!b)) s'
  | _ => .stuck
def rInO (C : Addr) (sp : Sp) (g : Bool → Bool) : R2 := fun x y H Q => ∃ a dx fs, y = .ref a ∧ H a = some (.ins C dx fs) ∧ sp [y, x] H (fun v H' => ∃ b, v = .bl b ∧ Q (.bl (g b)) H') (fun _ _ _ => False)
section
variable {X : Cx}
theorem cls_inst {pins : List (Addr × Obj)} {σ : L2.St} {H : Hp} {s : Shared} {a C dx : Addr} {fs : List (Str × V)} (I : Inv X pins σ H s) (e : H a = some (.ins C dx fs)) : ∃ ox od, PySem.W.InstAt s.heap a ox C od := by
  obtain ⟨mA, O, _, _, _, _⟩ := ins_get I.hok e
  obtain ⟨od, J, _⟩ := O.look
  exact ⟨_, _, J⟩
theorem pass_false {σ : L2.St} : PassesAt (L2.CX X.prog X.w) X σ (fun _ _ _ => False) := fun pins H s e s' I c => by
  obtain ⟨_, _, _, _, _, _, _, _, _, _, _, _, z⟩ := c
  exact z.elim
theorem op_inO {k : Nat} {f C : Addr} {fd : FuncData} {ps : List Str} {sp : Sp} (hm : Meth X.K C "__contains__" f) (F : FnOk X.prog X.w X.K X.mg X.base (L2.CX X.prog X.w) k f fd ps sp) (hr : Room k X.A) (hb : Binds X.K fd ps []) : OpR X (compareOp .In) (rInO C sp id) := by
  intro pins s σ H x y v u Q I rx ry h
  obtain ⟨a, dx, fs, rfl, ea, h⟩ := h
  obtain rfl : u = Value.ref a := ry
  obtain ⟨ox, od, J⟩ := cls_inst I ea
  refine wpAny_bind (contains_own I.kIn J hm.at_ hm.fn (wpAny_mono (run_fnS (us := [.ref a, v]) (vs := [.ref a, x]) (E := fun _ _ _ _ => False) F hr hb pass_false I (.cons rfl (.cons rx .nil)) h) (fun r s' hq => ?_) fun _ _ z => z))
  obtain ⟨v', H', I', rv, b, rfl, q⟩ := hq
  obtain rfl : r = Value.bool b := rv
  exact wpAny_truthy_bool (wpAny_pure ⟨.bl _, _, I', rfl, q⟩)
theorem op_ninO {k : Nat} {f C : Addr} {fd : FuncData} {ps : List Str} {sp : Sp} (hm : Meth X.K C "__contains__" f) (F : FnOk X.prog X.w X.K X.mg X.base (L2.CX X.prog X.w) k f fd ps sp) (hr : Room k X.A) (hb : Binds X.K fd ps []) : OpR X (compareOp .NotIn) (rInO C sp not) := by
  intro pins s σ H x y v u Q I rx ry h
  obtain ⟨a, dx, fs, rfl, ea, h⟩ := h
  obtain rfl : u = Value.ref a := ry
  obtain ⟨ox, od, J⟩ := cls_inst I ea
  refine wpAny_bind (contains_own I.kIn J hm.at_ hm.fn (wpAny_mono (run_fnS (us := [.ref a, v]) (vs := [.ref a, x]) (E := fun _ _ _ _ => False) F hr hb pass_false I (.cons rfl (.cons rx .nil)) h) (fun r s' hq => ?_) fun _ _ z => z))
  obtain ⟨v', H', I', rv, b, rfl, q⟩ := hq
  obtain rfl : r = Value.bool b := rv
  exact wpAny_truthy_bool (wpAny_pure ⟨.bl _, _, I', rfl, q⟩)
theorem op_inJ {cl : Nat → Value} {k j c n : Nat} {F : FF} (J : JMt X.prog X.w X.K X.mg X.base cl k c "__contains__" n F) (hr : Room j X.A) (hk : k ≤ j) : ∃ r r' : R2, OpR X (compareOp .In) r ∧ Ok2 X.K r (inO n c F) ∧ OpR X (compareOp .NotIn) r' ∧ Ok2 X.K r' (ninO n c F) := by
  obtain ⟨f, hM, J⟩ := J.ex
  obtain ⟨fd, ps, kp, b, G⟩ := J.ex
  have key : ∀ (g : Bool → Bool) (Wx : Nat → Hp → Prop) (M : Hp) (ι : List Addr) (s : Sto) (H : Hp) (x y : D) (u v : V) (Q : VK), Conc X.K M ι s H → Rep X.K M ι x u → Rep X.K M ι y v →
      Post X.K (Rep X.K) Wx M ι H (match inO n c F s x y with | .val (.bl b) s' => .val (.bl (g b)) s' | _ => .stuck) Q → rInO (He.ga X.K (cname c)) (SpF X.K cl n F) g u v H Q := by
    intro g Wx M ι s H x y u v Q C rx ry P
    unfold inO at P
    split at P
    · rename_i b' s' hq
      split at hq
      · rename_i k'
        split at hq
        · rename_i c' ds ee
          split at hq
          · rename_i hcn
            obtain ⟨rfl, rfl⟩ := hcn
            split at hq
            · rename_i b2 s2 hF
              cases hq
              obtain ⟨a, rfl, hk2⟩ := ry
              obtain ⟨hM1, dx, vs, h1, r2⟩ := C.obs k' a _ hk2 ee
              refine ⟨a, dx, _, rfl, h1, M, ι, s, [.ob k', x], C, .cons ⟨a, rfl, hk2⟩ (.cons rx .nil), rfl, ?_⟩
              rw [hF]
              intro M' ι' H' v' t C' r'
              exact ⟨b', r'.bl, P M' ι' H' _ t C' rf_bl⟩
            · cases hq
          · cases hq
        · cases hq
      · cases hq
    · exact P.elim
  refine ⟨_, _, op_inO hM G (hr.mono hk) b, fun Wx M ι s H x y u v Q C rx ry P => key id Wx M ι s H x y u v Q C rx ry ?_, op_ninO hM G (hr.mono hk) b, fun Wx M ι s H x y u v Q C rx ry P => key not Wx M ι s H x y u v Q C rx ry ?_⟩
  · revert P
    generalize hi : inO n c F s x y = o
    cases o with
    | val d s' =>
      cases d <;> first | exact fun P => P | (exfalso; revert hi; unfold inO; repeat' split) <;> simp
    | _ => first | exact fun P => P | (exfalso; revert hi; unfold inO; repeat' split) <;> simp
  · exact P
end
end Fl
namespace Fl
open PySem PySem.Spec PyProof.Rows L2
section
variable {X : Cx} {cl : Nat → Value} {W : WX} {a b : Expr} {fa fb : EF} {pos : Pos} {k j c n : Nat} {F : FF}
theorem je_inO (J : JMt X.prog X.w X.K X.mg X.base cl k c "__contains__" n F) (hr : Room j X.A) (hk : k ≤ j) (ha : JE X cl W a fa) (hb : JE X cl W b fb) (hm : behindInMarks .In b = false := by rfl) : JE X cl W (.Compare a [.In] [b] pos) (bin (inO n c F) fa fb) := by
  obtain ⟨r, r', a1, a2, a3, a4⟩ := op_inJ J hr hk
  exact je_cmp a1 a2 ha hb hm
theorem je_ninO (J : JMt X.prog X.w X.K X.mg X.base cl k c "__contains__" n F) (hr : Room j X.A) (hk : k ≤ j) (ha : JE X cl W a fa) (hb : JE X cl W b fb) (hm : behindInMarks .NotIn b = false := by rfl) : JE X cl W (.Compare a [.NotIn] [b] pos) (bin (ninO n c F) fa fb) := by
  obtain ⟨r, r', a1, a2, a3, a4⟩ := op_inJ J hr hk
  exact je_cmp a3 a4 ha hb hm
theorem jt_inO (J : JMt X.prog X.w X.K X.mg X.base cl k c "__contains__" n F) (hr : Room j X.A) (hk : k ≤ j) (ha : JE X cl W a fa) (hb : JE X cl W b fb) (hm : behindInMarks .In b = false := by rfl) : JT X cl W (.Compare a [.In] [b] pos) (tst (bin (inO n c F) fa fb)) := by
  obtain ⟨r, r', a1, a2, a3, a4⟩ := op_inJ J hr hk
  exact jt_cmp a1 a2 ha hb hm
theorem jt_ninO (J : JMt X.prog X.w X.K X.mg X.base cl k c "__contains__" n F) (hr : Room j X.A) (hk : k ≤ j) (ha : JE X cl W a fa) (hb : JE X cl W b fb) (hm : behindInMarks .NotIn b = false := by rfl) : JT X cl W (.Compare a [.NotIn] [b] pos) (tst (bin (ninO n c F) fa fb)) := by
  obtain ⟨r, r', a1, a2, a3, a4⟩ := op_inJ J hr hk
  exact jt_cmp a3 a4 ha hb hm
/-- a statement of which nothing is said -/
def noS : SF := fun _ _ => .stuck
theorem js_no {st : Stmt} : JS X cl W st noS := ⟨fun pins s σ H D I h => by
  obtain ⟨M, ι, δ, st', _, _, P⟩ := h
  exact P.elim⟩
end
/-- the n-th statement of a class -/
def mth (s : Stmt) (n : Nat) : Stmt := match s with
  | .ClassDef _ _ _ body _ _ _ _ _ _ _ => body.getD n (.Pass ⟨0, 0, 0, 0⟩)
  | _ => .Pass ⟨0, 0, 0, 0⟩
end Fl
set_option Elab.async false
set_option linter.all false
set_option maxRecDepth 100000
/-! dicts of one's own whose keys are tuples (of numbers, None, tuples). -/
namespace Fl
open PySem PySem.Spec PyProof.Rows L2
/-! ### keys -/
mutual
def kd : NestedKey → D
  | .none => .non
  | .num i => .int i
  | .text _ => .non
  | .tup ks => .tup (kds ks)
def kds : List NestedKey → List D
  | [] => []
  | k :: ks => kd k :: kds ks
end
mutual
def dk : D → Option NestedKey
  | .non => some .none
  | .int i => some (.num i)
  | .tup ds => (dks ds).map NestedKey.tup
  | _ => none
def dks : List D → Option (List NestedKey)
  | [] => some []
  | d :: ds => match dk d, dks ds with
    | some k, some ks => some (k :: ks)
    | _, _ => none
end
mutual
theorem dk_rep {K : PySem.W.Frag} {M : Hp} : ∀ {d : D} {v : V} {k : NestedKey}, RepF K M d v → dk d = some k → KeyM K M k v
  | .non, v, k, h, e => by unfold dk at e; cases e; unfold RepF at h; unfold KeyM; exact h
  | .int i, v, k, h, e => by unfold dk at e; cases e; unfold RepF at h; unfold KeyM; exact h
  | .tup ds, v, k, h, e => by
    unfold dk at e
    obtain ⟨ks, h1, rfl⟩ := Option.map_eq_some_iff.mp e
    unfold RepF at h
    obtain ⟨a, vs, rfl, h2, h3⟩ := h
    unfold KeyM
    exact ⟨a, vs, rfl, h2, dks_rep h3 h1⟩
  | .bl _, _, _, _, e => by unfold dk at e; cases e
  | .str _, _, _, _, e => by unfold dk at e; cases e
  | .lst _, _, _, _, e => by unfold dk at e; cases e
  | .scr _, _, _, _, e => by unfold dk at e; cases e
  | .ty _, _, _, _, e => by unfold dk at e; cases e
  | .ob _, _, _, _, e => by unfold dk at e; cases e
theorem dks_rep {K : PySem.W.Frag} {M : Hp} : ∀ {ds : List D} {vs : List V} {ks : List NestedKey}, RepL K M ds vs → dks ds = some ks → KeysM K M ks vs
  | [], vs, ks, h, e => by unfold dks at e; cases e; unfold KeysM; exact h.unnil
  | d :: ds, vs, ks, h, e => by
    obtain ⟨v, r, rfl, h1, h2⟩ := h.uncons
    unfold dks at e
    split at e
    · rename_i k ks' e1 e2
      cases e
      unfold KeysM
      exact ⟨v, r, rfl, dk_rep h1 e1, dks_rep h2 e2⟩
    · cases e
end
mutual
theorem KeyM.rep {K : PySem.W.Frag} {M : Hp} : ∀ {k : NestedKey} {v : V}, KeyM K M k v → RepF K M (kd k) v
  | .none, v, h => by unfold KeyM at h; unfold kd RepF; exact h
  | .num i, v, h => by unfold KeyM at h; unfold kd RepF; exact h
  | .text x, v, h => by unfold KeyM at h; exact h.elim
  | .tup ks, v, h => by
    unfold KeyM at h
    obtain ⟨a, vs, rfl, h1, h2⟩ := h
    unfold kd RepF
    exact ⟨a, vs, rfl, h1, KeysM.rep h2⟩
theorem KeysM.rep {K : PySem.W.Frag} {M : Hp} : ∀ {ks : List NestedKey} {vs : List V}, KeysM K M ks vs → RepL K M (kds ks) vs
  | [], vs, h => by unfold KeysM at h; subst h; unfold kds; exact .nil
  | k :: ks, vs, h => by
    unfold KeysM at h
    obtain ⟨v, r, rfl, h1, h2⟩ := h
    unfold kds
    exact .cons (KeyM.rep h1) (KeysM.rep h2)
end
theorem kd_flat : ∀ k : NestedKey, flat (kd k) = true
  | .none => by unfold kd; rfl
  | .num _ => by unfold kd; rfl
  | .text _ => by unfold kd; rfl
  | .tup _ => by unfold kd; rfl
mutual
theorem KeyM.is {P : Program} {w : World} {K : PySem.W.Frag} {M H : Hp} {h : Heap} (m : Ex M H) (ok : HOk P w H h) (kin : K.In h) : ∀ {k : NestedKey} {v : V} {u : Value}, KeyM K M k v → RelV v u → NestedIs h k u
  | .none, v, u, q, r => by
    unfold KeyM at q; subst q
    obtain rfl : u = Value.none := r
    exact .none
  | .num i, v, u, q, r => by
    unfold KeyM at q; subst q
    obtain ⟨t, rfl⟩ : ∃ t, u = Value.int i t := r
    exact .int i t
  | .text x, v, u, q, r => by unfold KeyM at q; exact q.elim
  | .tup ks, v, u, q, r => by
    unfold KeyM at q
    obtain ⟨a, vs, rfl, h1, h2⟩ := q
    obtain rfl : u = Value.ref a := r
    rcases h1 with h1 | ⟨o, its, n, h1, h3, h4, _, h5⟩
    · obtain ⟨_, its, r1, o, g1, g2, n, g3⟩ : L2.ObjOk P w H h a (.tup vs) := ok a _ (m _ _ h1)
      exact .tup g1 g2 g3 (by simpa using KeysM.is m ok kin h2 r1)
    · exact .tup (kin _ _ h1) h3 h4 (KeysM.is m ok kin h2 h5)
theorem KeysM.is {P : Program} {w : World} {K : PySem.W.Frag} {M H : Hp} {h : Heap} (m : Ex M H) (ok : HOk P w H h) (kin : K.In h) : ∀ {ks : List NestedKey} {vs : List V} {us : List Value}, KeysM K M ks vs → Vals vs us → NestedAll h ks us
  | [], vs, us, q, r => by
    unfold KeysM at q; subst q
    cases r
    exact .nil
  | k :: ks, vs, us, q, r => by
    unfold KeysM at q
    obtain ⟨v, rr, rfl, h1, h2⟩ := q
    cases r with
    | cons r1 r2 => exact .cons (KeyM.is m ok kin h1 r1) (KeysM.is m ok kin h2 r2)
end
/-! ### the dict where it stands -/
section
variable {X : Cx} {pins : List (Addr × Obj)} {σ : L2.St} {M H : Hp} {s : Shared} {a : Addr} {xs : List Ent}
theorem dic_at (I : Inv X pins σ H s) (e : H a = some (dicO a xs)) : ∃ o es ep, s.heap.get? a = some o ∧ o.ExactDict ∧ o.data = .dict es ep ∧ es.toList = xs.map ent := (I.hok a _ e).1
structure KeysOk (K : PySem.W.Frag) (H : Hp) (xs : List Ent) : Prop where
  ex : ∃ M, Ex M H ∧ ∀ x ∈ xs, KeyM K M x.1 (.ref x.2.1) ∧ x.1.depth ≤ 8
  nd : (xs.map (·.1)).Nodup
theorem ent_eq {P : Program} {w : World} {K : PySem.W.Frag} {M : Hp} {xs : List Ent} (h : ∀ x ∈ xs, KeyM K M x.1 (.ref x.2.1) ∧ x.1.depth ≤ 8) : xs.map ent = xs.map (entryOfKey (nestedKind P w)) := by
  refine List.map_congr_left fun x hx => ?_
  have := hsh_eq w x.1 (h x hx).1.ntx
  show (⟨hsh x.1, .ref x.2.1, x.2.2⟩ : DictEntry) = ⟨NestedKey.hash w x.1, .ref x.2.1, x.2.2⟩
  rw [this]
theorem dic_of (I : Inv X pins σ H s) (e : H a = some (dicO a xs)) (k : KeysOk X.K H xs) : s.heap.DictOfH (nestedKind X.prog X.w) a xs := by
  obtain ⟨o, es, ep, h1, h2, h3, h4⟩ := dic_at I e
  obtain ⟨M, m, hk⟩ := k.ex
  exact ⟨o, es, ep, h1, h2, h3, by rw [h4]; exact ent_eq hk, fun x hx => ⟨KeyM.is m I.hok I.kIn (hk x hx).1 rfl, (hk x hx).2⟩, k.nd⟩
end
/-- the key k at x in the dict at y -/
structure DicAsk (K : PySem.W.Frag) (x y : V) (H : Hp) (k : NestedKey) (b d : Addr) (xs : List Ent) : Prop where
  hx : x = .ref b
  hy : y = .ref d
  hd : H d = some (dicO d xs)
  hs : (d == sysModules) = false
  ks : KeysOk K H xs
  key : ∃ M, Ex M H ∧ KeyM K M k x
  dep : k.depth ≤ 8
def rInDk (K : PySem.W.Frag) (g : Bool → Bool) : R2 := fun x y H Q => ∃ k b d xs, DicAsk K x y H k b d xs ∧ Q (.bl (g (atKey xs k).isSome)) H
def rIxDk (K : PySem.W.Frag) : R2 := fun y x H Q => ∃ k b d xs p v, DicAsk K x y H k b d xs ∧ atKey xs k = some p ∧ RelV v p.2 ∧ Q v H
def rSetDk (K : PySem.W.Frag) : TSet := fun y x v H Q => ∃ k b d xs, DicAsk K x y H k b d xs ∧ xs.length ≤ 16000000 ∧ ∀ u, RelV v u → Q (upd H d (dicO d (storedH xs k b u)))
section
variable {X : Cx}
theorem op_inDk (hu : X.A.units + 65 < cLine) : OpR X (compareOp .In) (rInDk X.K id) := by
  intro pins s σ H x y v u Q I rx ry h
  obtain ⟨k, b, d, xs, q, h⟩ := h
  obtain ⟨rfl, rfl, hd, hs, ks, ⟨M, m, hk⟩, hdep⟩ := q
  obtain rfl : v = Value.ref b := rx
  obtain rfl : u = Value.ref d := ry
  refine in_keyed (knd := nestedKind X.prog X.w) (by show X.A.units + 1 + 8 < cLine; omega) ⟨KeyM.is m I.hok I.kIn hk rfl, hdep⟩ hs ⟨xs, dic_of I hd ks, rfl⟩ ?_
  rw [valueAt_pairsH, Option.isSome_map]
  exact ⟨.bl _, H, I.tok _, rfl, h⟩
theorem op_ninDk (hu : X.A.units + 65 < cLine) : OpR X (compareOp .NotIn) (rInDk X.K not) := by
  intro pins s σ H x y v u Q I rx ry h
  obtain ⟨k, b, d, xs, q, h⟩ := h
  obtain ⟨rfl, rfl, hd, hs, ks, ⟨M, m, hk⟩, hdep⟩ := q
  obtain rfl : v = Value.ref b := rx
  obtain rfl : u = Value.ref d := ry
  refine notIn_keyed (knd := nestedKind X.prog X.w) (by show X.A.units + 1 + 8 < cLine; omega) ⟨KeyM.is m I.hok I.kIn hk rfl, hdep⟩ hs ⟨xs, dic_of I hd ks, rfl⟩ ?_
  rw [valueAt_pairsH, Option.isSome_map]
  exact ⟨.bl _, H, I.tok _, rfl, h⟩
theorem ix_Dk (hu : X.A.units + 65 < cLine) : IxR X (rIxDk X.K) := by
  intro value slice pins s σ H y x u v Q I ry rx h hsl
  obtain ⟨k, b, d, xs, p, z, q, hp, rz, h⟩ := h
  obtain ⟨rfl, rfl, hd, hs, ks, ⟨M, m, hk⟩, hdep⟩ := q
  obtain rfl : v = Value.ref b := rx
  obtain rfl : u = Value.ref d := ry
  have hm := dic_of I hd ks
  refine tail_any hm.typeIs slot_dict_getitem.lookup (getItem_keyed (knd := nestedKind X.prog X.w) (v := p.2) (kvs := pairsH xs) (by show X.A.units + 1 + 8 < cLine; omega) ⟨KeyM.is m I.hok I.kIn hk rfl, hdep⟩ ⟨xs, hm, rfl⟩ (by rw [valueAt_pairsH, hp]; rfl) ?_) hsl
  exact ⟨z, H, I.tok _, rz, h⟩
theorem set_Dk (hu : X.A.units + 65 < cLine) : PSet X (rSetDk X.K) := by
  intro pins s σ H y x v ov iv u Q I ry rx rv h
  obtain ⟨k, b, d, xs, q, hl, h⟩ := h
  obtain ⟨rfl, rfl, hd, hs, ks, ⟨M, m, hk⟩, hdep⟩ := q
  obtain rfl : iv = Value.ref b := rx
  obtain rfl : ov = Value.ref d := ry
  have hm := dic_of I hd ks
  refine wpAny_setItem_heap (knd := nestedKind X.prog X.w) (hsz := by rw [sizeLine_eq]; omega) (by show X.A.units + 1 + 8 < cLine; omega) ⟨KeyM.is m I.hok I.kIn hk rfl, hdep⟩ hm fun h' hm' sb => ?_
  obtain ⟨o, es, ep, g1, g2, g3, g4, g5, g6⟩ := hm'
  have hent : es.toList = (storedH xs k b u).map ent := by
    rw [g4]
    refine (List.map_congr_left fun z hz => ?_).symm
    have hz1 : ntx z.1 = true := by
      obtain ⟨M2, m2, hk2⟩ := ks.ex
      have hcase : z.1 = k ∨ ∃ z' ∈ xs, z.1 = z'.1 := by
        unfold storedH at hz
        split at hz
        · obtain ⟨y, hy, rfl⟩ := List.mem_map.mp hz
          unfold putAt
          split
          · exact .inr ⟨y, hy, rfl⟩
          · exact .inr ⟨y, hy, rfl⟩
        · rcases List.mem_append.mp hz with q | q
          · exact .inr ⟨z, q, rfl⟩
          · obtain rfl : z = (k, b, u) := by simpa using q
            exact .inl rfl
      rcases hcase with e | ⟨z', hz', e⟩
      · rw [e]; exact hk.ntx
      · rw [e]; exact (hk2 z' hz').1.ntx
    show (⟨hsh z.1, .ref z.2.1, z.2.2⟩ : DictEntry) = ⟨NestedKey.hash X.w z.1, .ref z.2.1, z.2.2⟩
    rw [hsh_eq X.w z.1 hz1]
  refine ⟨_, ?_, h u rv⟩
  refine I.write (x := d) (e := d) (o := dicO d (storedH xs k b u)) (by rw [hd]; exact True.intro) (.inl rfl) (fun c o' hb z => (sb.2 c hb).trans z) ⟨o, g1⟩ ?_
  exact ⟨⟨o, es, ep, g1, g2, g3, hent⟩, ⟨o, g1⟩, fun h1 h2 q z => by
    obtain ⟨o', es', ep', w1, w2⟩ := q
    exact ⟨o', es', ep', z _ w1, w2⟩⟩
/-- {}, of one's own -/
def tDNewD : TE := fun _ H Q => ∀ p, H p = none → (p == sysModules) = false → Q (.ref p) (upd H p (dicO p []))
theorem pe_dnewD {pos : Pos} : PE X (.Dict [] [] pos) tDNewD := ⟨fun pins s σ H Q I h => by
  refine wpAny_Dict_empty ⟨.ref s.heap.objs.size, _, I.laid (a := s.heap.objs.size) (o := dicO s.heap.objs.size []) (t' := s.toks) (fun b u z => Heap.get?_push_of_some _ z) (Nat.le_refl _) ?_, rfl, h _ (I.hok.fresh (Nat.le_refl _)) (beq_eq_false_iff_ne.mpr (Ne.symm (Nat.ne_of_lt I.big)))⟩
  have e := Heap.get?_push_size s.heap (o := { cls := .type "dict", data := .dict #[] }) rfl
  exact ⟨⟨_, #[], 0, e, ⟨rfl, rfl, rfl⟩, rfl, rfl⟩, ⟨_, e⟩, fun h1 h2 q z => by
    obtain ⟨o', es', ep', w1, w2⟩ := q
    exact ⟨o', es', ep', z _ w1, w2⟩⟩⟩
end
/-! ### as data -/
def getK (kvs : List (NestedKey × D)) (k : NestedKey) : Option D := (kvs.find? fun p => decide (p.1 = k)).map (·.2)
def putK (kvs : List (NestedKey × D)) (k : NestedKey) (d : D) : List (NestedKey × D) := if (getK kvs k).isSome = true then kvs.map (fun p => if p.1 = k then (p.1, d) else p) else kvs ++ [(k, d)]
section
variable {K : PySem.W.Frag} {M : Hp} {ι : List Addr}
inductive En3 (K : PySem.W.Frag) (M : Hp) (ι : List Addr) : List (NestedKey × D) → List Ent → List V → Prop
  | nil : En3 K M ι [] [] []
  | cons {k : NestedKey} {d : D} {b : Addr} {u : Value} {v : V} {kvs : List (NestedKey × D)} {xs : List Ent} {vs : List V} (r : RelV v u) (p : Rep K M ι d v) (t : En3 K M ι kvs xs vs) : En3 K M ι ((k, d) :: kvs) ((k, b, u) :: xs) (v :: vs)
theorem En3.of : ∀ {kvs : List (NestedKey × D)} {xs : List Ent} {vs : List V}, xs.map (·.1) = kvs.map (·.1) → Vals vs (xs.map (·.2.2)) → Reps K M ι (kvs.map (·.2)) vs → En3 K M ι kvs xs vs
  | [], [], _, _, _, r => by cases r; exact .nil
  | [], _ :: _, _, e, _, _ => by cases e
  | _ :: _, [], _, e, _, _ => by cases e
  | (k, d) :: kvs, (k', b, u) :: xs, vs, e, r, p => by
    cases p with
    | cons p1 p2 =>
      cases r with
      | cons r1 r2 =>
        simp only [List.map_cons, List.cons.injEq] at e
        obtain ⟨e1, e2⟩ := e
        subst e1
        exact .cons r1 p1 (En3.of e2 r2 p2)
theorem En3.keys {kvs : List (NestedKey × D)} {xs : List Ent} {vs : List V} (h : En3 K M ι kvs xs vs) : xs.map (·.1) = kvs.map (·.1) := by
  induction h with
  | nil => rfl
  | cons _ _ _ ih => simp [ih]
theorem En3.vals {kvs : List (NestedKey × D)} {xs : List Ent} {vs : List V} (h : En3 K M ι kvs xs vs) : Vals vs (xs.map (·.2.2)) := by
  induction h with
  | nil => exact .nil
  | cons r _ _ ih => exact .cons r ih
theorem En3.reps {kvs : List (NestedKey × D)} {xs : List Ent} {vs : List V} (h : En3 K M ι kvs xs vs) : Reps K M ι (kvs.map (·.2)) vs := by
  induction h with
  | nil => exact .nil
  | cons _ p _ ih => exact .cons p ih
theorem En3.len {kvs : List (NestedKey × D)} {xs : List Ent} {vs : List V} (h : En3 K M ι kvs xs vs) : xs.length = kvs.length := by
  have := congrArg List.length h.keys
  simpa using this
theorem getK_cons {p : NestedKey × D} {kvs : List (NestedKey × D)} {k : NestedKey} : getK (p :: kvs) k = if p.1 = k then some p.2 else getK kvs k := by
  unfold getK
  by_cases h : p.1 = k
  · rw [List.find?_cons_of_pos (by simpa using h), if_pos h]; rfl
  · rw [List.find?_cons_of_neg (by simpa using h), if_neg h]
theorem atKey_cons {p : Ent} {xs : List Ent} {k : NestedKey} : atKey (p :: xs) k = if p.1 = k then some p.2 else atKey xs k := by
  by_cases h : p.1 = k
  · rw [if_pos h]; simp [atKey, h]
  · rw [if_neg h]; simp [atKey, h]
theorem En3.get {kvs : List (NestedKey × D)} {xs : List Ent} {vs : List V} (h : En3 K M ι kvs xs vs) (k : NestedKey) : (atKey xs k = none ∧ getK kvs k = none) ∨ ∃ p d v, atKey xs k = some p ∧ getK kvs k = some d ∧ RelV v p.2 ∧ Rep K M ι d v := by
  induction h with
  | nil => exact .inl ⟨rfl, rfl⟩
  | @cons k' d b u v kvs xs vs r p t ih =>
    rw [atKey_cons, getK_cons]
    by_cases e : k' = k
    · rw [if_pos e, if_pos e]
      exact .inr ⟨_, _, v, rfl, rfl, r, p⟩
    · rw [if_neg e, if_neg e]; exact ih
theorem En3.upd {kvs : List (NestedKey × D)} {xs : List Ent} {vs : List V} (h : En3 K M ι kvs xs vs) {k : NestedKey} {d : D} {v : V} {u : Value} (r : RelV v u) (p : Rep K M ι d v) :
    ∃ vs', En3 K M ι (kvs.map fun z => if z.1 = k then (z.1, d) else z) (xs.map (putAt k u)) vs' := by
  induction h with
  | nil => exact ⟨[], .nil⟩
  | @cons k' d' b u' v' kvs xs vs r' p' t ih =>
    obtain ⟨vs', ih⟩ := ih
    by_cases e : k' = k
    · refine ⟨v :: vs', ?_⟩
      simp only [List.map_cons, if_pos e, putAt]
      exact .cons r p ih
    · refine ⟨v' :: vs', ?_⟩
      simp only [List.map_cons, if_neg e, putAt]
      exact .cons r' p' ih
theorem En3.app {kvs : List (NestedKey × D)} {xs : List Ent} {vs : List V} (h : En3 K M ι kvs xs vs) {k : NestedKey} {b : Addr} {d : D} {v : V} {u : Value} (r : RelV v u) (p : Rep K M ι d v) : En3 K M ι (kvs ++ [(k, d)]) (xs ++ [(k, b, u)]) (vs ++ [v]) := by
  induction h with
  | nil => exact .cons r p .nil
  | cons r' p' _ ih => exact .cons r' p' ih
theorem mem_getK {kvs : List (NestedKey × D)} {k : NestedKey} (h : getK kvs k = none) : k ∉ kvs.map (·.1) := by
  induction kvs with
  | nil => simp
  | cons p kvs ih =>
    rw [getK_cons] at h
    by_cases e : p.1 = k
    · rw [if_pos e] at h; cases h
    · rw [if_neg e] at h
      simp only [List.map_cons, List.mem_cons, not_or]
      exact ⟨fun z => e z.symm, ih h⟩
theorem Ents.store {kvs : List (NestedKey × D)} {xs : List Ent} {vs : List V} (h : Ents K M ι kvs xs vs) {k : NestedKey} {b : Addr} {d : D} {v : V} {u : Value} (hk : KeyM K M k (.ref b)) (hd : k.depth ≤ 8) (r : RelV v u) (p : Rep K M ι d v) :
    ∃ vs', Ents K M ι (putK kvs k d) (storedH xs k b u) vs' := by
  have t := En3.of h.keys h.vals h.reps
  rcases t.get k with ⟨e1, e2⟩ | ⟨q, d', v', e1, e2, _⟩
  · rw [storedH_new e1]
    unfold putK
    rw [e2, if_neg (by simp)]
    have t2 := t.app (k := k) (b := b) r p
    refine ⟨_, t2.keys, ?_, fun x hx => ?_, t2.vals, t2.reps⟩
    · rw [List.map_append, List.nodup_append]
      refine ⟨h.nd, by simp, fun x hx y hy => ?_⟩
      obtain rfl : y = k := by simpa using hy
      exact fun z => mem_getK e2 (z ▸ hx)
    · rcases List.mem_append.mp hx with q | q
      · exact h.key x q
      · obtain rfl : x = (k, b, u) := by simpa using q
        exact ⟨hk, hd⟩
  · rw [storedH_old e1]
    unfold putK
    rw [e2, if_pos (by simp)]
    obtain ⟨vs', t2⟩ := t.upd (k := k) r p
    refine ⟨vs', t2.keys, ?_, fun x hx => ?_, t2.vals, t2.reps⟩
    · have e : (kvs.map fun z => if z.1 = k then (z.1, d) else z).map (·.1) = kvs.map (·.1) := by
        rw [List.map_map]
        refine List.map_congr_left fun z _ => ?_
        simp only [Function.comp]
        split <;> rfl
      rw [e]; exact h.nd
    · obtain ⟨y, hy, rfl⟩ := List.mem_map.mp hx
      have := h.key y hy
      unfold putAt
      split <;> exact this
end
/-! ### the operations -/
/-- the dict that is asked -/
def dicB (s : Sto) (x y : D) : Option (NestedKey × List (NestedKey × D)) := match y with
  | .ob j => match s[j]? with
    | some (.dic kvs) => match x with
      | .tup ds => match dk (.tup ds) with
        | some k => if k.depth ≤ 8 then some (k, kvs) else none
        | none => none
      | _ => none
    | _ => none
  | _ => none
theorem dic_ask {K : PySem.W.Frag} {M : Hp} {ι : List Addr} {s : Sto} {H : Hp} {x y : D} {u v : V} {k : NestedKey} {kvs : List (NestedKey × D)} (C : Conc K M ι s H) (rx : Rep K M ι x u) (ry : Rep K M ι y v) (e : dicB s x y = some (k, kvs)) :
    ∃ j a b xs vs, y = .ob j ∧ s[j]? = some (.dic kvs) ∧ v = .ref a ∧ ι[j]? = some a ∧ M a = none ∧ H a = some (dicO a xs) ∧ Ents K M ι kvs xs vs ∧ DicAsk K u v H k b a xs ∧ KeyM K M k (.ref b) ∧ u = .ref b := by
  unfold dicB at e
  split at e
  · rename_i j
    split at e
    · rename_i kvs' hj
      split at e
      · rename_i ds
        split at e
        · rename_i k' hk
          split at e
          · rename_i hd
            cases e
            obtain ⟨a, rfl, ha⟩ := ry
            obtain ⟨hM, h0, xs, vs, h1, h2⟩ := C.obs j a _ ha hj
            have q := dk_rep (K := K) (M := M) (rx.f rfl) hk
            obtain ⟨b, ws, rfl, _, _⟩ := rx.tup
            exact ⟨j, a, b, xs, vs, rfl, hj, rfl, ha, hM, h1, h2, ⟨rfl, rfl, h1, h0, ⟨⟨M, C.sub, h2.key⟩, by rw [h2.keys]; exact h2.nd⟩, ⟨M, C.sub, q⟩, hd⟩, q, rfl⟩
          · cases e
        · cases e
      · cases e
    · cases e
  · cases e
def inDk (g : Bool → Bool) : Op2 := fun s x y => match dicB s x y with
  | some (k, kvs) => .val (.bl (g (getK kvs k).isSome)) s
  | none => .stuck
def ixDk : Op2 := fun s y x => match dicB s x y with
  | some (k, kvs) => match getK kvs k with
    | some d => .val d s
    | none => .stuck
  | none => .stuck
theorem ok_inDk {K : PySem.W.Frag} {g : Bool → Bool} : Ok2 K (rInDk K g) (inDk g) := fun Wx M ι s H x y u v Q C rx ry P => by
  unfold inDk at P
  split at P
  · rename_i k kvs e
    obtain ⟨j, a, b, xs, vs, rfl, hj, rfl, ha, hM, h1, h2, q, hk, rfl⟩ := dic_ask C rx ry e
    refine ⟨k, b, a, xs, q, ?_⟩
    have e2 : (atKey xs k).isSome = (getK kvs k).isSome := by
      rcases (En3.of h2.keys h2.vals h2.reps).get k with ⟨e1, e2⟩ | ⟨p, d', v', e1, e2, _⟩ <;> rw [e1, e2] <;> rfl
    rw [e2]
    exact Post.now (C := Rep K) P C rf_bl
  · exact P.elim
theorem ok_ixDk {K : PySem.W.Frag} : Ok2 K (rIxDk K) ixDk := fun Wx M ι s H y x v u Q C ry rx P => by
  unfold ixDk at P
  split at P
  · rename_i k kvs e
    obtain ⟨j, a, b, xs, vs, rfl, hj, rfl, ha, hM, h1, h2, q, hk, rfl⟩ := dic_ask C rx ry e
    split at P
    · rename_i d hd
      rcases (En3.of h2.keys h2.vals h2.reps).get k with ⟨e1, e2⟩ | ⟨p, d', v', e1, e2, r, pp⟩
      · rw [hd] at e2; cases e2
      · rw [hd] at e2; cases e2
        exact ⟨k, b, a, xs, p, v', q, e1, r, Post.now (C := Rep K) P C pp⟩
    · exact P.elim
  · exact P.elim
/-- o[i] = d -/
def setD (fo fi : EF) : GF := fun d δ s => (fo δ s).bind fun y s1 => (fi δ s1).bind fun x s2 => match y with
  | .ob j => match dicB s2 x (.ob j) with
    | some (k, kvs) => if kvs.length ≤ 16000000 then .val δ (s2.set j (.dic (putK kvs k d))) else .stuck
    | none => .stuck
  | _ => .stuck
def dicE : EF := fun _ s => .val (.ob s.length) (s ++ [.dic []])
section
variable {X : Cx} {cl : Nat → Value} {W : WX} {a b e : Expr} {fa fb : EF} {pos : Pos}
theorem je_dicE : JE X cl W (.Dict [] [] pos) dicE := (pe_dnewD (X := X) (pos := pos)).imp fun σ H Q h => by
  obtain ⟨M, ι, δ, s, C, S, P⟩ := h
  intro p hp hs
  obtain ⟨Ca, ta⟩ := C.over (o := dicO p []) hp
  obtain ⟨hM, hι⟩ := C.fresh hp
  have Cc := Ca.join (u := .dic []) hι ⟨hM, hs, [], [], upd_same, ⟨rfl, List.nodup_nil, (fun x hx => nomatch hx), .nil, .nil⟩⟩
  have tc : Step M ι H M (ι ++ [p]) (upd H p (dicO p [])) := by
    refine ⟨ta.mm, fun k a h => ii_app k a h, ta.fr, fun a h => ?_, ta.mn⟩
    rcases List.mem_append.mp h with q | q
    · exact .inl q
    · obtain rfl : a = p := by simpa using q
      exact .inr hp
  exact P _ _ _ _ tc Cc ⟨p, rfl, by rw [← C.len]; simp⟩
theorem jg_setD (hu : X.A.units + 65 < cLine) (ha : JE X cl (fun _ _ _ _ => False) a fa) (hb : JE X cl (fun _ _ _ _ => False) b fb)
    (hs : ∀ v, assign (.Subscript a b pos) X.env v = (do
      let ov ← holding [v] (eval a X.env)
      let iv ← holding [v, ov] (eval b X.env)
      standAt pos
      holding [v, ov, iv] (setItem ov iv v)
      release [v, ov, iv] []) := by intro _; rfl) : JG X (.Subscript a b pos) (setD fa fb) := (pg_sub ha hb (set_Dk hu) hs).imp fun v σ H Q h => by
  obtain ⟨M, ι, δ, s, d, C, S, rd, P⟩ := h
  refine ⟨M, ι, δ, s, C, S, Post.mono (Post.bind (Rep X.K) P) fun o H1 m => ?_⟩
  obtain ⟨M1, ι1, yd, s1, t1, C1, ry, P1⟩ := m.ex
  refine ⟨M1, ι1, δ, s1, C1, S.step t1, Post.mono (Post.bind (Rep X.K) P1) fun i H2 m2 => ?_⟩
  obtain ⟨M2, ι2, xd, s2, t2, C2, rx, P2⟩ := m2.ex
  have ry2 := ry.step t2
  have rd2 := (rd.step t1).step t2
  split at P2
  · rename_i j
    split at P2
    · rename_i k kvs e
      split at P2
      · rename_i hl
        obtain ⟨j', aa, bb, xs, vs, ej, hj, rfl, hja, hM, h1, h2, q, hk, rfl⟩ := dic_ask C2 rx ry2 e
        cases ej
        refine ⟨k, bb, aa, xs, q, by rw [(En3.of h2.keys h2.vals h2.reps).len]; exact hl, fun u ru => ?_⟩
        obtain ⟨vs', E2⟩ := h2.store hk q.dep ru rd2
        obtain ⟨C3, t3⟩ := C2.put (o := dicO aa (storedH xs k bb u)) (u := .dic (putK kvs k d)) hja hM ⟨hM, q.hs, _, vs', upd_same, E2⟩
        exact P2 _ _ _ _ t3 C3 (((S.step t1).step t2).step t3)
      · exact P2.elim
    · exact P2.elim
  · exact P2.elim
end
end Fl
set_option Elab.async false
set_option linter.all false
set_option maxRecDepth 100000
/-! for k, v in d.items(): the dict d is taken for good by the walk. -/
namespace Fl
open PySem PySem.Spec PyProof.Rows L2
/-- the object at a, for good -/
def dicF (a : Addr) (o : Obj) : HO := .ext fun h => h.get? a = some o
def ItD (d : Addr) (o : Obj) (xs : List Ent) (vs : List V) : It :=
  ⟨fun i H => H d = some (dicF d o) ∧ i < xs.length, fun i H v H' => ∃ T x u, v = .ref T ∧ H T = none ∧ H' = upd H T (.tup [.ref x.2.1, u]) ∧ xs[i]? = some x ∧ vs[i]? = some u, fun i H => H d = some (dicF d o) ∧ i = xs.length⟩
section
variable {P : Program} {w : World} {K : PySem.W.Frag} {elts : List Expr} {kk : Nat} {tpos : Pos} {d it : Addr} {o : Obj} {es : Array DictEntry} {ep : Nat} {xs : List Ent} {vs : List V}
theorem turn_dic (hx : o.ExactDict) (hod : o.data = .dict es ep) (he : es.toList = xs.map ent) (hv : Vals vs (xs.map (·.2.2))) (hne : d ≠ it) :
    Turn P w K (.Tuple elts kk tpos) (ItD d o xs vs) [it] it (fun i h => ∃ ok ov, IsItemIter h it d i es.size ep ok ov) where
  mem := List.mem_singleton.mpr rfl
  obj := fun i h st b hb => by
    obtain rfl : b = it := by simpa using hb
    obtain ⟨ok, ov, z⟩ := st
    exact ⟨_, z, fun v q => nomatch q⟩
  keep := fun i h h' st q => let ⟨ok, ov, z⟩ := st; ⟨ok, ov, q it (List.mem_singleton.mpr rfl) _ z⟩
  item := by
    intro X hP hw hK hc i pins s σ H E I hf st hg
    subst hP hw hK
    obtain ⟨hd, hi⟩ := hg
    have hdo : s.heap.get? d = some o := (I.hok d _ hd).1
    have hsz : es.size = xs.length := by
      have := congrArg List.length he
      simpa using this
    have hlt : it < s.heap.objs.size := by
      obtain ⟨_, _, z⟩ := st
      exact Heap.lt_size z
    have W := GoesN.ofWalksT (elts := elts) (k := kk) (pos := tpos) (WalksT.rawItems (prog := X.prog) (w := X.w) (A := X.A) (I.ok.hd hc) it d hne es ep)
    refine W.goes i s (fun u s2 => ∃ x H', Inv X pins σ H' s2 ∧ RelV x u ∧ (ItD d o xs vs).yld i H x H' ∧ (∃ ok ov, IsItemIter s2.heap it d (i + 1) es.size ep ok ov) ∧ ∀ b ∈ [it], H' b = none) E (by omega) ⟨st, o, hdo, hx, hod⟩ fun v h' tk hY st' hk _ => ?_
    obtain ⟨T, vals, rfl, hT, ⟨hi2, rfl⟩, hTup⟩ := hY
    have hei : es[i] = ent xs[i] := by
      have := congrArg (fun l => l[i]?) he
      simp only [Array.getElem?_toList, List.getElem?_map] at this
      rw [Array.getElem?_eq_getElem hi2, List.getElem?_eq_getElem hi] at this
      exact Option.some.inj this
    rw [hei] at hTup
    have hvl : i < vs.length := by rw [hv.length, List.length_map]; exact hi
    obtain ⟨u, hu, ru⟩ := hv.get (List.getElem?_eq_getElem hvl)
    rw [List.getElem?_map, List.getElem?_eq_getElem hi] at hu
    obtain rfl : xs[i].2.2 = u := Option.some.inj hu
    have new : L2.ObjOk X.prog X.w (upd H T (.tup [.ref xs[i].2.1, vs[i]])) h' T (.tup [.ref xs[i].2.1, vs[i]]) :=
      ⟨by show 2 ≤ sizeLine; decide, [.ref xs[i].2.1, xs[i].2.2], .cons rfl (.cons ru .nil), by obtain ⟨o, q1, q2, n, q3⟩ := hTup; exact ⟨o, q1, q2, n, q3⟩⟩
    have I1 : Inv X pins σ (upd H T (.tup [.ref xs[i].2.1, vs[i]])) { s with heap := h', toks := tk } := I.turnedNew (ch := [it]) (fun c o' hb q => hk c o' hb q) hf hT new
    refine ⟨.ref T, _, I1, rfl, ⟨T, xs[i], vs[i], rfl, I.hok.fresh hT, rfl, List.getElem?_eq_getElem hi, List.getElem?_eq_getElem hvl⟩, st'.1, fun c hcm => ?_⟩
    obtain rfl : c = it := by simpa using hcm
    rw [upd_ne (Nat.ne_of_lt (Nat.lt_of_lt_of_le hlt hT))]
    exact (hf c hcm).1
  done := by
    intro X hP hw hK hc i pins s σ H E I hf st hg
    subst hP hw hK
    obtain ⟨hd, hi⟩ := hg
    subst hi
    have hdo : s.heap.get? d = some o := (I.hok d _ hd).1
    have hsz : es.size = xs.length := by
      have := congrArg List.length he
      simpa using this
    rw [← hsz] at st
    have W := GoesN.ofWalksT (elts := elts) (k := kk) (pos := tpos) (WalksT.rawItems (prog := X.prog) (w := X.w) (A := X.A) (I.ok.hd hc) it d hne es ep)
    exact W.stops s (fun s2 => Inv X pins σ H s2) E ⟨st, o, hdo, hx, hod⟩ fun h' tk hk _ => I.turnedL (ch := [it]) (fun c o' hb q => hk c o' hb q) hf
  self := fun A i s Q E st h => by
    obtain ⟨ok, ov, z⟩ := st
    exact wpAny_pyIter_itemiter z h
end
def iDic (td : TE) : TI := fun σ H R => td σ H fun x H1 => ∃ d xs vs, x = .ref d ∧ H1 d = some (dicO d xs) ∧ (d == sysModules) = false ∧ Vals vs (xs.map (·.2.2)) ∧ ∀ o, R (ItD d o xs vs) (upd H1 d (dicF d o))
section
variable {X : Cx} {e : Expr} {td : TE} {apos cpos tpos : Pos} {elts : List Expr} {kk : Nat}
theorem pi_dic (he : PE X e td) (hbase : attributeBase e "items" X.env (eval e X.env) = eval e X.env := by rfl) (hline : (apos.endLine == cpos.line) = true := by rfl) :
    PI X (.Tuple elts kk tpos) (.Call (.Attribute e "items" apos) [] [] cpos) (iDic td) := by
  refine ⟨fun pins s σ H R I h => ?_⟩
  refine wpAny_Call_method (T := "dict") (id := "dict.items") hbase rfl hline F.plainAttrs_dict F.slot_dict_items F.type_dict_items (thn (he.run pins s σ H _ I h) fun u s1 ⟨x, H1, I1, rx, d, xs, vs, ex, hd, hs, hv, q⟩ => ?_)
  subst ex
  obtain rfl : u = Value.ref d := rx
  obtain ⟨o, es, ep, h1, h2, h3, h4⟩ := dic_at I1 hd
  have hT : s1.TypeIs (.ref d) "dict" := ⟨o, h1, h2.1⟩
  refine ⟨hT, fun a z => by cases z; exact ⟨o, h1, h2.2.1⟩, ?_⟩
  have IF : Inv X pins σ (upd H1 d (dicF d o)) s1 := by
    have := I1.write (x := d) (e := d) (o := dicF d o) (h' := s1.heap) (t' := s1.toks) (by rw [hd]; exact True.intro) (.inl rfl) (fun c o' hb z => z) ⟨o, h1⟩ ⟨h1, ⟨o, h1⟩, fun g1 g2 z k => k o z⟩
    exact this
  have I2 : Inv X pins σ (upd H1 d (dicF d o)) { s1 with heap := s1.heap.push { cls := .type "dict_items", data := .fields #[.ref d] } } := IF.kept (t' := s1.toks) fun b ob z => Heap.get?_push_of_some _ z
  have hd2 : (s1.heap.push { cls := .type "dict_items", data := .fields #[.ref d] }).get? d = some o := Heap.get?_push_of_some _ h1
  have hlt : d < (s1.heap.push { cls := .type "dict_items", data := .fields #[.ref d] }).objs.size := Heap.lt_size hd2
  have fin : wpAny (model X.prog X.w) X.A (pyIter (.ref s1.heap.objs.size)) (PIE X pins σ (.Tuple elts kk tpos) R) X.xe { s1 with heap := s1.heap.push { cls := .type "dict_items", data := .fields #[.ref d] } } := by
    refine wpAny_pyIter_items_raw (d := d) (es := es) (ep := ep) ⟨_, Heap.get?_push_size _ rfl, rfl, rfl⟩ ⟨o, hd2, h2, h3⟩ (pi_one (tk := s1.toks) I2 _ (turn_dic h2 h3 h4 hv (Nat.ne_of_lt hlt)) ⟨.none, .none, ?_⟩ (q o))
    exact Heap.get?_push_size _ rfl
  show wpAny _ _ (callWith cpos (.builtin "dict.items") [.ref d] [] []) _ X.xe s1
  exact method_meetsIn F.slot_dict_items F.entry_dict_items rfl (PySem.evalArgs_none ⟨rfl, hT, F.args_dict_items_1 _, _, meets_dict_items_raw d hs, ⟨⟨es, ep, o, h1, h2, h3⟩, fin⟩⟩)
end
/-! ### as data -/
section
variable {K : PySem.W.Frag} {M : Hp} {ι : List Addr} {s : Sto} {H : Hp}
/-- a thing of the store, given away for good -/
theorem Conc.seal (C : Conc K M ι s H) {k : Nat} {a : Addr} {o : HO} (hk : ι[k]? = some a) (hM : M a = none) : Conc K (upd M a o) ι (s.set k .dead) (upd H a o) ∧ Step M ι H (upd M a o) ι (upd H a o) := by
  obtain ⟨C1, t1⟩ := C.put (o := o) (u := .dead) hk hM (by show upd H a o a ≠ none; rw [upd_same]; simp)
  constructor
  · refine ⟨fun b u e => ?_, C1.len, C1.nd, fun j b u e1 e2 => ?_⟩
    · by_cases q : b = a
      · subst q; rw [upd_same] at e ⊢; exact e
      · rw [upd_ne q] at e; exact C1.sub b u e
    · by_cases hj : j = k
      · subst hj
        have hl : j < s.length := by have := (List.getElem?_eq_some_iff.mp hk).1; rw [C.len] at this; exact this
        rw [List.getElem?_set_self hl] at e2; cases e2
        rw [hk] at e1; cases e1
        show upd H a o a ≠ none
        rw [upd_same]; simp
      · have ne : b ≠ a := by
          rintro rfl
          obtain ⟨h1, q1⟩ := List.getElem?_eq_some_iff.mp e1
          obtain ⟨h2, q2⟩ := List.getElem?_eq_some_iff.mp hk
          exact hj ((List.getElem_inj C.nd).mp (q1.trans q2.symm))
        exact (C1.obs j b u e1 e2).keep (Ex.new hM) (fun _ _ q => q) (fun u q => q) (fun q => by rw [upd_ne ne]; exact q)
  · refine ⟨Ex.new hM, fun _ _ h => h, t1.fr, fun _ h => .inl h, fun b e => ?_⟩
    by_cases q : b = a
    · subst q; exact .inr (.inl (List.mem_of_getElem? hk))
    · rw [upd_ne q] at e; exact .inl e
theorem itOk_dic {a : Addr} {o : Obj} {kvs : List (NestedKey × D)} {xs : List Ent} {vs : List V} (hd : M a = some (dicF a o)) (hk : ∀ x ∈ xs, KeyM K M x.1 (.ref x.2.1)) (hx : xs.map (·.1) = kvs.map (·.1)) (hv : vs.length = xs.length) (r : RepL K M (kvs.map (·.2)) vs) :
    ItOk K M (ItD a o xs vs) (kvs.map fun p => D.tup [kd p.1, p.2]) := by
  intro i M1 ι1 s1 H1 e C
  have e1 : Ex M H1 := Ex.trans e C.sub
  have hl : xs.length = kvs.length := by have := congrArg List.length hx; simpa using this
  constructor
  · intro d hdd
    rw [List.getElem?_map] at hdd
    obtain ⟨p, hp, rfl⟩ := Option.map_eq_some_iff.mp hdd
    have hi : i < xs.length := by rw [hl]; exact (List.getElem?_eq_some_iff.mp hp).1
    refine ⟨⟨e1 _ _ hd, hi⟩, fun v' H2 y => ?_⟩
    obtain ⟨T, x, u, rfl, hT, rfl, hxi, hui⟩ := y
    have hkey : x.1 = p.1 := by
      have := congrArg (fun l => l[i]?) hx
      simp only [List.getElem?_map, hxi, hp] at this
      exact Option.some.inj this
    obtain ⟨C2, t2⟩ := C.laid (o := .tup [.ref x.2.1, u]) hT
    obtain ⟨dx, h1, h2⟩ := r.getV hui
    rw [List.getElem?_map, hp] at h1
    obtain rfl : p.2 = dx := Option.some.inj h1
    have h3 := KeyM.rep (hk x (List.mem_of_getElem? hxi))
    rw [hkey] at h3
    exact ⟨_, t2, C2, Rep.of (by unfold RepF; exact ⟨T, _, rfl, .inl upd_same, .cons ((h3.mono e).mono t2.mm) (.cons ((h2.mono e).mono t2.mm) .nil)⟩)⟩
  · intro hi
    exact ⟨e1 _ _ hd, by rw [hi, hl, List.length_map]⟩
end
def walkD (fa : EF) : AF := fun δ s => (fa δ s).bind fun x s1 => match x with
  | .ob j => match s1[j]? with
    | some (.dic kvs) => if flats (kvs.map (·.2)) = true then .val (kvs.map fun p => D.tup [kd p.1, p.2]) (s1.set j .dead) else .stuck
    | _ => .stuck
  | _ => .stuck
theorem ji_dic {X : Cx} {cl : Nat → Value} {W : WX} {e : Expr} {fa : EF} {apos cpos tpos : Pos} {elts : List Expr} {kk : Nat} (he : JE X cl W e fa) (hbase : attributeBase e "items" X.env (eval e X.env) = eval e X.env := by rfl) (hline : (apos.endLine == cpos.line) = true := by rfl) :
    JI X cl W (.Tuple elts kk tpos) (.Call (.Attribute e "items" apos) [] [] cpos) (walkD fa) := (pi_dic he hbase hline).imp fun σ H R h => by
  obtain ⟨M, ι, δ, s, C, S, P⟩ := h
  refine ⟨M, ι, δ, s, C, S, Post.mono (Post.bind (Rep X.K) P) fun u H1 m => ?_⟩
  obtain ⟨M1, ι1, x, s1, t1, C1, r1, P1⟩ := m.ex
  split at P1
  · rename_i j
    split at P1
    · rename_i kvs hj
      split at P1
      · rename_i hf
        obtain ⟨a, rfl, ha⟩ := r1
        obtain ⟨hM, h0, xs, vs, h1, h2⟩ := C1.obs j a _ ha hj
        refine ⟨a, xs, vs, rfl, h1, h0, h2.vals, fun o => ?_⟩
        obtain ⟨C2, t2⟩ := C1.seal (o := dicF a o) ha hM
        refine P1 _ _ _ _ t2 C2 (itOk_dic upd_same (fun x hx => (h2.key x hx).1.mono t2.mm) h2.keys ?_ ((h2.reps.flat hf).mono t2.mm))
        rw [h2.vals.length, List.length_map]
      · exact P1.elim
    · exact P1.elim
  · exact P1.elim
end Fl
set_option Elab.async false
set_option linter.all false
set_option maxRecDepth 100000
/-! a tuple, 0 or 1 times. -/
namespace Fl
open PySem PySem.Spec PyProof.Rows L2
section
variable (l : Addr) (its : Array Value) (n : Nat) (dd : Option Addr) (sl : Array (Option Value)) (u : Tok)
theorem tmul_none (hne : its.isEmpty = false) : Meets (Builtin.«tuple.__mul__» ⟨[.ref l, .int 0 u], []⟩) (fun _ R s => s.heap.get? l = some { cls := .type "tuple", dict := dd, data := .seq its n, slots := sl } ∧
      R (.ok (.ret (Value.ref s.heap.objs.size))) { s with heap := s.heap.push { cls := .type "tuple", data := .seq #[] }, toks := s.toks }) :=
  .of_wp fun prog w A R s hh => by
    obtain ⟨hp, g, d, tk, os⟩ := s
    obtain ⟨hl, hh⟩ := hh
    have ix := AutoSeq1.idx_int
    wp_walk using AutoSeq1.wpAny_loadPart' hl
    repeat (first
      | (refine wpAny_ite_false (decide_eq_false (by rw [hne]; decide)) ?_; wp_walk using AutoSeq1.wpAny_loadPart' hl)
      | (refine wpAny_ite_false (decide_eq_false (by decide)) ?_; wp_walk using AutoSeq1.wpAny_loadPart' hl)
      | (refine wpAny_ite_true (decide_eq_true (by simp)) ?_; wp_walk using AutoSeq1.wpAny_loadPart' hl))
    exact ⟨_, rfl, hh⟩
theorem tmul_once : Meets (Builtin.«tuple.__mul__» ⟨[.ref l, .int 1 u], []⟩) (fun _ R s => s.heap.get? l = some { cls := .type "tuple", dict := dd, data := .seq its n, slots := sl } ∧
      R (.ok (.ret (Value.ref l))) s) :=
  .of_wp fun prog w A R s hh => by
    obtain ⟨hp, g, d, tk, os⟩ := s
    obtain ⟨hl, hh⟩ := hh
    have ix := AutoSeq1.idx_int
    wp_walk using AutoSeq1.wpAny_loadPart' hl
    repeat (first
      | (refine wpAny_ite_false (decide_eq_false (by decide)) ?_; wp_walk using AutoSeq1.wpAny_loadPart' hl)
      | (refine wpAny_ite_true (decide_eq_true (by simp)) ?_; wp_walk using AutoSeq1.wpAny_loadPart' hl))
    exact ⟨_, rfl, hh⟩
end
def rRep01 (K : PySem.W.Frag) : R2 := fun x y H Q => ∃ l k xs, x = .ref l ∧ y = .int k ∧ SqT K H l xs ∧ xs ≠ [] ∧ ((k = 0 ∧ ∀ p, H p = none → Q (.ref p) (upd H p (.tup []))) ∨ (k = 1 ∧ Q (.ref l) H))
theorem op_rep01 {X : Cx} : OpR X (binaryOp .Mult) (rRep01 X.K) := by
  intro pins s σ H x y v w I' I rx ry hh
  obtain ⟨l, k, xs, rfl, rfl, hT, hne, q⟩ := hh
  obtain rfl : v = Value.ref l := rx
  obtain ⟨t, rfl⟩ := ry
  obtain ⟨its, r, ⟨⟨cls, dd, data, sl⟩, ho, hc, n, hd⟩, hs⟩ := I.tuple hT
  have hc' : cls = .type "tuple" := hc
  have hd' : data = .seq its.toArray n := hd
  subst hc' hd'
  have hi : its.toArray.isEmpty = false := by
    cases its with
    | nil => cases r; exact absurd rfl hne
    | cons a b => rfl
  have hTT : s.TypeIs (.ref l) "tuple" := ⟨_, ho, rfl⟩
  rcases q with ⟨rfl, q⟩ | ⟨rfl, q⟩
  · refine wpAny_binaryOp_repeat_ref (T := "tuple") (U := "int") (by decide) hTT (fun s' => typeIs_int s' 0 t) noFill_tuple_mul F.fills_int_mul F.slot_int_rmul repeat_tuple F.slot_int_index.lookup
      (call_meets F.slot_int_rmul (typeIs_int s 0 t) F.entry_int_rmul (F.args_int_rmul_2 _ _) (int_rmul_tuple 0 t l its.toArray n dd sl) ⟨ho, rfl, hTT, call_meets F.slot_tuple_mul hTT F.entry_tuple_mul (F.args_tuple_mul_2 _ _) (tmul_none l its.toArray n dd sl t hi) ⟨ho, ?_⟩⟩)
    have hg := Heap.get?_push_size s.heap (o := { cls := .type "tuple", data := .seq #[] }) rfl
    exact ⟨.ref s.heap.objs.size, _, I.laid (a := s.heap.objs.size) (o := .tup []) (t' := s.toks) (fun b u z => Heap.get?_push_of_some _ z) (Nat.le_refl _) ⟨by rw [sizeLine_eq]; exact Nat.zero_le _, [], .nil, ⟨_, hg, rfl, _, rfl⟩⟩, rfl, q _ (I.hok.fresh (Nat.le_refl _))⟩
  · refine wpAny_binaryOp_repeat_ref (T := "tuple") (U := "int") (by decide) hTT (fun s' => typeIs_int s' 1 t) noFill_tuple_mul F.fills_int_mul F.slot_int_rmul repeat_tuple F.slot_int_index.lookup
      (call_meets F.slot_int_rmul (typeIs_int s 1 t) F.entry_int_rmul (F.args_int_rmul_2 _ _) (int_rmul_tuple 1 t l its.toArray n dd sl) ⟨ho, rfl, hTT, call_meets F.slot_tuple_mul hTT F.entry_tuple_mul (F.args_tuple_mul_2 _ _) (tmul_once l its.toArray n dd sl t) ⟨ho, ?_⟩⟩)
    exact ⟨.ref l, H, I, rfl, q⟩
/-- a tuple, k times -/
def mulT : Op2 := fun s x y => match x, y with
  | .tup a, .int k => if 0 < a.length ∧ a.length ≤ 1000 ∧ 0 ≤ k ∧ k ≤ 1000 then .val (.tup (List.replicate k.toNat a).flatten) s else .stuck
  | _, _ => .stuck
def rMulT (K : PySem.W.Frag) : R2 := fun x y H Q => rRepT K x y H Q ∨ rRep01 K x y H Q
theorem op_mulT {X : Cx} : OpR X (binaryOp .Mult) (rMulT X.K) := op_repT.or op_rep01
theorem ok_mulT {K : PySem.W.Frag} : Ok2 K (rMulT K) mulT := fun Wx M ι s H x y u v Q C rx ry P => by
  unfold mulT at P
  split at P
  · rename_i a k
    split at P
    · rename_i hc
      obtain ⟨p, vs, rfl, h1, r1⟩ := rx.tup
      have hlen := r1.length
      have hne : vs ≠ [] := fun e => by rw [e] at hlen; simp at hlen; omega
      by_cases h2 : 2 ≤ k
      · exact .inl ⟨p, k, vs, rfl, ry.int, Ex.t C.sub h1.sq, hne, h2, hc.2.2.2, by rw [hlen]; exact hc.2.1, fun l hl => Post.laidT P C (r1.rep _) hl⟩
      · refine .inr ⟨p, k, vs, rfl, ry.int, Ex.t C.sub h1.sq, hne, ?_⟩
        by_cases h0 : k = 0
        · subst h0
          exact .inl ⟨rfl, fun l hl => Post.laidT P C .nil hl⟩
        · obtain rfl : k = 1 := by omega
          have e : (List.replicate (1 : Int).toNat a).flatten = a := by simp
          rw [e] at P
          exact .inr ⟨rfl, Post.now (C := Rep K) P C (Rep.of (by unfold RepF; exact ⟨p, vs, rfl, h1, r1⟩))⟩
    · exact P.elim
  · exact P.elim
end Fl
set_option Elab.async false
set_option linter.all false
set_option maxRecDepth 100000
/-! {k: v}, of one's own. -/
namespace Fl
open PySem PySem.Spec PyProof.Rows L2
def tDic1 (K : PySem.W.Frag) (tk tv : TE) : TE := fun σ H Q => ∀ p, H p = none → (p == sysModules) = false → tk σ (upd H p (dicO p [])) fun x H1 => tv σ H1 fun y H2 =>
  H2 p = some (dicO p []) ∧ ∃ k b, x = .ref b ∧ (∃ M, Ex M H2 ∧ KeyM K M k x) ∧ k.depth ≤ 8 ∧ ∀ u, RelV y u → Q (.ref p) (upd H2 p (dicO p [(k, b, u)]))
theorem dic_new {P : Program} {w : World} {H : Hp} {h : Heap} {a : Addr} {xs : List Ent} {o : Obj} {es : Array DictEntry} {ep : Nat} (h1 : h.get? a = some o) (h2 : o.ExactDict) (h3 : o.data = .dict es ep) (h4 : es.toList = xs.map ent) : L2.ObjOk P w H h a (dicO a xs) :=
  ⟨⟨o, es, ep, h1, h2, h3, h4⟩, ⟨o, h1⟩, fun g1 g2 q z => by
    obtain ⟨o', es', ep', w1, w2⟩ := q
    exact ⟨o', es', ep', z _ w1, w2⟩⟩
theorem pe_dic1 {X : Cx} {pos : Pos} {k v : Expr} {tk tv : TE} (hu : X.A.units + 65 < cLine) (hk : PE X k tk) (hv : PE X v tv) : PE X (.Dict [some k] [v] pos) (tDic1 X.K tk tv) := by
  refine ⟨fun pins s σ H Q I q => ?_⟩
  have hn := I.hok.fresh (Nat.le_refl s.heap.objs.size)
  have e0 := Heap.get?_push_size s.heap (o := { cls := .type "dict", data := .dict #[] }) rfl
  have I1 := I.laid (a := s.heap.objs.size) (o := dicO s.heap.objs.size []) (h' := s.heap.push { cls := .type "dict", data := .dict #[] }) (t' := s.toks) (fun b u z => Heap.get?_push_of_some _ z) (Nat.le_refl _) (dic_new e0 ⟨rfl, rfl, rfl⟩ rfl rfl)
  have q1 := q _ hn (beq_eq_false_iff_ne.mpr (Ne.symm (Nat.ne_of_lt I.big)))
  have hp : (evalEachOpt [some k] X.env).zip ((evalEach [v] X.env).map fun v => do let x ← v; standAt pos; pure x) = (pairTrees [some k] [v] X.env pos).map fun p => (some p.1, p.2) := by rfl
  rw [arm_eval_Dict, hp, dictDisplay_pairs _ (by intro z; cases z) (by show 1 < 17; decide)]
  refine wpAny_bind (wpAny_standAt (wpAny_bind (wpAny_subDictH (knd := nestedKind X.prog X.w) (by show X.A.units + 8 < cLine; omega) (by show 1 ≤ 15; decide) (thn ((pps_cons (pos := pos) hk hv pps_nil).run pins _ σ _ (fun ps H2 => match ps with
    | [(x, y)] => H2 s.heap.objs.size = some (dicO s.heap.objs.size []) ∧ ∃ k b, x = .ref b ∧ (∃ M, Ex M H2 ∧ KeyM X.K M k x) ∧ k.depth ≤ 8 ∧ ∀ u, RelV y u → Q (.ref s.heap.objs.size) (upd H2 s.heap.objs.size (dicO s.heap.objs.size [(k, b, u)]))
    | _ => False) I1 q1) fun ws s2 hh => ?_))))
  obtain ⟨ps, H2, I2, rel, hq⟩ := hh
  cases rel with
  | nil => exact hq.elim
  | @cons p q ps qs r t =>
    cases t with
    | cons _ _ => exact hq.elim
    | nil =>
      obtain ⟨x, y⟩ := p
      obtain ⟨xv, yv⟩ := q
      obtain ⟨hd, k, b, rfl, ⟨M, m, hkm⟩, hdep, fin⟩ := hq
      obtain ⟨rx, ry⟩ := r
      obtain rfl : xv = Value.ref b := rx
      have hkk : (nestedKind X.prog X.w).is s2.heap k b := ⟨KeyM.is m I2.hok I2.kIn hkm rfl, hdep⟩
      have hk0 : KeysOk X.K H2 [] := ⟨⟨M, m, fun z hz => nomatch hz⟩, List.nodup_nil⟩
      refine ⟨[(k, b, yv)], ⟨rfl, rfl, hkk, trivial⟩, dic_of I2 hd hk0, fun h' tk2 hm' sb => wpAny_pure ⟨.ref s.heap.objs.size, _, ?_, rfl, fin yv ry⟩⟩
      obtain ⟨o, es, ep, g1, g2, g3, g4, g5, g6⟩ := hm'
      have hst : storedAllH [] [(k, b, yv)] = [(k, b, yv)] := rfl
      rw [hst] at g4
      refine I2.write (x := s.heap.objs.size) (e := s.heap.objs.size) (o := dicO s.heap.objs.size [(k, b, yv)]) (by rw [hd]; exact True.intro) (.inl rfl) (fun c o' hb z => (sb.2 c hb).trans z) ⟨o, g1⟩ (dic_new g1 g2 g3 ?_)
      rw [g4]
      show [(⟨NestedKey.hash X.w k, .ref b, yv⟩ : DictEntry)] = [⟨hsh k, .ref b, yv⟩]
      rw [hsh_eq X.w k hkm.ntx]
def dic1E (fk fv : EF) : EF := fun δ s => (fk δ s).bind fun x s1 => (fv δ s1).bind fun y s2 => match x with
  | .tup ds => match dk (.tup ds) with
    | some k => if k.depth ≤ 8 then .val (.ob s2.length) (s2 ++ [.dic [(k, y)]]) else .stuck
    | none => .stuck
  | _ => .stuck
theorem je_dic1 {X : Cx} {cl : Nat → Value} {W : WX} {k v : Expr} {fk fv : EF} {pos : Pos} (hu : X.A.units + 65 < cLine) (hk : JE X cl W k fk) (hv : JE X cl W v fv) : JE X cl W (.Dict [some k] [v] pos) (dic1E fk fv) := (pe_dic1 hu hk hv).imp fun σ H Q h => by
  obtain ⟨M, ι, δ, s, C, S, P⟩ := h
  intro p hp hs
  obtain ⟨hM, hι⟩ := C.fresh hp
  obtain ⟨Ca, ta⟩ := C.over (o := dicO p []) hp
  refine ⟨M, ι, δ, s, Ca, S.step ta, ?_⟩
  unfold dic1E at P
  revert P
  cases hfk : fk δ s with
  | stuck => exact fun P => P
  | exc c s' => exact fun P M' ι' H' t q => P M' ι' H' (ta.trans t) q
  | val xd s1 =>
    intro P M1 ι1 H1 x t1 C1 rx
    simp only [O.bind_val] at P
    refine ⟨M1, ι1, δ, s1, C1, (S.step ta).step t1, ?_⟩
    revert P
    cases hfv : fv δ s1 with
    | stuck => exact fun P => P
    | exc c s' => exact fun P M' ι' H' t q => P M' ι' H' ((ta.trans t1).trans t) q
    | val yd s2 =>
      intro P M2 ι2 H2 y t2 C2 ry
      simp only [O.bind_val] at P
      have t12 := t1.trans t2
      have hH2 : H2 p = some (dicO p []) := t12.fr p _ upd_same hι
      have hι2 : p ∉ ι2 := fun z => by
        rcases t12.im p z with q | q
        · exact hι q
        · rw [upd_same] at q; cases q
      have hM2 : M2 p = none := by
        by_cases z : M2 p = none
        · exact z
        · rcases t12.mn p z with q | q | q
          · exact absurd hM q
          · exact absurd q hι
          · rw [upd_same] at q; cases q
      refine ⟨hH2, ?_⟩
      split at P
      · rename_i ds
        split at P
        · rename_i kk hkk
          split at P
          · rename_i hdep
            have rx2 := rx.step t2
            have q := dk_rep (K := X.K) (M := M2) (rx2.f rfl) hkk
            obtain ⟨b, ws, rfl, _, _⟩ := rx2.tup
            refine ⟨kk, b, rfl, ⟨M2, C2.sub, q⟩, hdep, fun u ru => ?_⟩
            have C3 := C2.own (o := dicO p [(kk, b, u)]) hM2 hι2
            have E1 : Ents X.K M2 ι2 [(kk, yd)] [(kk, b, u)] [y] := ⟨rfl, by simp, (fun z hz => by
              obtain rfl : z = (kk, b, u) := by simpa using hz
              exact ⟨q, hdep⟩), .cons ru .nil, .cons ry .nil⟩
            have C4 := C3.join (u := .dic [(kk, yd)]) hι2 ⟨hM2, hs, _, _, upd_same, E1.mono (Ex.refl _) ii_app⟩
            have t4 : Step M ι H M2 (ι2 ++ [p]) (upd H2 p (dicO p [(kk, b, u)])) := by
              have t0 := ta.trans t12
              refine ⟨t0.mm, fun k a h => ii_app k a (t0.ii k a h), fun a o e n => ?_, fun a h => ?_, t0.mn⟩
              · rw [upd_ne (ne_of_none e hp)]; exact t0.fr a o e n
              · rcases List.mem_append.mp h with z | z
                · exact t0.im a z
                · obtain rfl : a = p := by simpa using z
                  exact .inr hp
            exact P _ _ _ _ t4 C4 ⟨p, rfl, by rw [← C2.len]; simp⟩
          · exact P.elim
        · exact P.elim
      · exact P.elim
end Fl
set_option Elab.async false
set_option linter.all false
set_option maxRecDepth 100000
/-! sorted([ints]); texts in order. -/
namespace Fl
open PySem PySem.Spec PyProof.Rows L2
theorem perm_srt : ∀ {xs ys : List Int}, xs.Perm ys → xs.Pairwise (· ≤ ·) → ys.Pairwise (· ≤ ·) → xs = ys
  | [], ys, h, _, _ => (List.Perm.nil_eq h)
  | x :: xs, [], h, _, _ => by have := h.length_eq; simp at this
  | x :: xs, y :: ys, h, h1, h2 => by
    have g1 := List.pairwise_cons.mp h1
    have g2 := List.pairwise_cons.mp h2
    have e : x = y := by
      have m1 : y ∈ x :: xs := h.mem_iff.mpr (List.mem_cons_self ..)
      have m2 : x ∈ y :: ys := h.mem_iff.mp (List.mem_cons_self ..)
      have a1 : x ≤ y := by
        rcases List.mem_cons.mp m1 with q | q
        · omega
        · exact g1.1 y q
      have a2 : y ≤ x := by
        rcases List.mem_cons.mp m2 with q | q
        · omega
        · exact g2.1 x q
      omega
    subst e
    rw [perm_srt (List.Perm.cons_inv h) g1.2 g2.2]
open Classical in
/-- the numbers in order -/
noncomputable def ordI (ns : List Int) : List Int := if h : ∃ zs : List Int, zs.Perm ns ∧ zs.Pairwise (· ≤ ·) then h.choose else ns
theorem ordI_eq {ns zs : List Int} (h1 : zs.Perm ns) (h2 : zs.Pairwise (· ≤ ·)) : ordI ns = zs := by
  have h : ∃ zs : List Int, zs.Perm ns ∧ zs.Pairwise (· ≤ ·) := ⟨zs, h1, h2⟩
  unfold ordI
  rw [dif_pos h]
  exact perm_srt (h.choose_spec.1.trans h1.symm) h.choose_spec.2 h2
noncomputable def ordG (s : Sto) : List D → O D
  | [x] => match view s x with
    | .lst ds => match intsD ds with
      | some ns => .val (.lst ((ordI ns).map .int)) s
      | none => .stuck
    | _ => .stuck
  | _ => .stuck
theorem ok_ord {K : PySem.W.Frag} : OkN K (rSortedI K) ordG := fun Wx M ι s H xs us Q C r P => by
  unfold ordG at P
  split at P
  · obtain ⟨u, rfl, rx⟩ := r.one
    have s1 := C.sees rx
    split at P
    · rename_i ds e
      rw [e] at s1
      split at P
      · rename_i ns hn
        obtain ⟨a, vs, rfl, h1, r1⟩ := s1
        obtain rfl := ints_v r1 hn
        exact ⟨a, ns, rfl, SqL.of h1, fun ns' p q1 q2 hp => by
          rw [ordI_eq q1 q2] at P
          exact Post.laidL P C (RepL.ints ns') hp⟩
      · exact P.elim
    · exact P.elim
  · exact P.elim
/-- texts in order -/
def ltS : Op2 := fun s x y => match x, y with
  | .str a, .str b => .val (.bl (decide (a < b))) s
  | _, _ => .stuck
def rLtS : R2 := fun x y H Q => ∃ i j, x = .str i ∧ y = .str j ∧ Q (.bl (decide (i.cps.toList < j.cps.toList))) H
theorem op_ltS {X : Cx} : OpR X (compareOp .Lt) rLtS := op_lt_str
theorem ok_ltS {K : PySem.W.Frag} : Ok2 K rLtS ltS := fun Wx M ι s H x y u v Q C rx ry P => by
  unfold ltS at P
  split at P
  · rename_i a b
    obtain ⟨rfl, _⟩ := rx.str
    obtain ⟨rfl, _⟩ := ry.str
    exact ⟨_, _, rfl, rfl, Post.now (C := Rep K) P C rf_bl⟩
  · exact P.elim
end Fl
set_option Elab.async false
set_option linter.all false
set_option maxRecDepth 100000
/-! comprehensions with two fors; range of three; list.count. -/
namespace Fl
open PySem PySem.Spec PyProof.Rows L2
def loop2 (g : GF) (t : BF) (fi1 : AF) (vs1 : List Nat) (g1 : GF) (t1 : BF) (e : EF) (δ : Sl) : List D → List D → Sto → O (List D)
  | [], acc, s => .val acc s
  | x :: xs, acc, s => (noX (g x δ s)).bind fun δ1 s1 => (quiet (t δ1 s1)).bind fun b s2 =>
    if b = true then (quiet (fi1 δ1 s2)).bind fun ys s3 => (loopQ flat g1 t1 e (wipeD δ1 vs1) ys acc s3).bind fun acc' s4 => loop2 g t fi1 vs1 g1 t1 e δ xs acc' s4
    else loop2 g t fi1 vs1 g1 t1 e δ xs acc s2
def comp2F (fi : AF) (vs : List Nat) (g : GF) (t : BF) (fi1 : AF) (vs1 : List Nat) (g1 : GF) (t1 : BF) (e : EF) : EF := fun δ s => (fi δ s).bind fun xs s1 => (loop2 g t fi1 vs1 g1 t1 e (wipeD δ vs) xs [] s1).bind fun ds s2 => .val (.lst ds) s2
section
variable {K : PySem.W.Frag} {cl : Nat → Value} {W : WX}
theorem bind_bind {α β γ : Type} {o : O α} {f : α → Sto → O β} {g : β → Sto → O γ} : (o.bind f).bind g = o.bind fun a s => (f a s).bind g := by cases o <;> rfl
theorem RepS.mono {M M' : Hp} {ι ι' : List Addr} {δ : Sl} {σ : L2.St} (h : RepS K M ι δ σ) (m : Ex M M') (i : ∀ (k : Nat) (a : Addr), ι[k]? = some a → ι'[k]? = some a) : RepS K M' ι' δ σ :=
  ⟨h.1, fun j d e => by
    obtain ⟨v, h1, h2⟩ := h.2 j d e
    exact ⟨v, h1, h2.mono m i⟩⟩
/-- the inner walk -/
theorem inner_lc {σ2 : L2.St} {M1 : Hp} {ι1 : List Addr} {H1 : Hp} {p : Addr} {M4 : Hp} {ι4 : List Addr} {s4 : Sto} {H4 : Hp} {δ1 : Sl} {vs1 : List Nat} {ys acc : List D} {J : It} {g1 : GF} {t1 : BF} {f : EF} {Wx : Nat → Hp → Prop} {Q : VK} {Nx : Hp → Prop} {kk : List D → Sto → O D}
    (S : RepS K M4 ι4 δ1 σ2) (ok : ItOk K M4 J ys) (w : Way K M1 ι1 H1 p acc M4 ι4 s4 H4) (fl : ∀ d ∈ acc, flat d = true)
    (hfin : ∀ {M ι s H acc}, Way K M1 ι1 H1 p acc M ι s H → (∀ d ∈ acc, flat d = true) → Post K (Rep K) Wx M1 ι1 H1 (kk acc s) Q → Nx H)
    (P : Post K (Rep K) Wx M1 ι1 H1 ((loopQ flat g1 t1 f (wipeD δ1 vs1) ys acc s4).bind kk) Q) :
    ∃ W1 : Nat → Nat → Hp → Prop, (∃ m, W1 0 m H4) ∧ ∀ j k H, W1 j k H → (J.stop j H ∧ Nx H) ∨ (J.go j H ∧ ∃ Nx1 : Hp → Prop, (∀ H', Nx1 H' → ∃ k', k' < k ∧ W1 (j + 1) k' H') ∧
      ∀ x H', J.yld j H x H' → rdGC K vs1 g1 x (L2.wipe σ2 vs1) H' fun σ3 H5 => L2.wipe σ3 vs1 = L2.wipe σ2 vs1 ∧ rdT K cl W0 t1 σ3 H5 fun b H6 => if b = true then rdE K cl W0 f σ3 H6 fun y H7 => ∃ acc, H7 p = some (.lst acc) ∧ acc.length < sizeLine ∧ Nx1 (upd H7 p (.lst (acc ++ [y]))) else Nx1 H6) := by
  refine ⟨fun j m H => m = ys.length - j ∧ j ≤ ys.length ∧ ∃ M' ι' s' acc, Way K M1 ι1 H1 p acc M' ι' s' H ∧ Ex M4 M' ∧ (∀ (k : Nat) (a : Addr), ι4[k]? = some a → ι'[k]? = some a) ∧ (∀ d ∈ acc, flat d = true) ∧ Post K (Rep K) Wx M1 ι1 H1 ((loopQ flat g1 t1 f (wipeD δ1 vs1) (ys.drop j) acc s').bind kk) Q,
    ⟨ys.length, by simp, Nat.zero_le _, M4, ι4, s4, acc, w, Ex.refl _, fun _ _ h => h, fl, P⟩, ?_⟩
  rintro i m H ⟨rfl, hi, M', ι', s', acc, w, m4, i4, fl, P'⟩
  obtain ⟨ok1, ok2⟩ := ok i M' ι' s' H m4 w.C
  by_cases hlt : i < ys.length
  · obtain ⟨go, yl⟩ := ok1 _ (List.getElem?_eq_getElem hlt)
    rw [List.drop_eq_getElem_cons hlt] at P'
    refine .inr ⟨go, fun H => ∃ M2 ι2 s2 acc2, Way K M1 ι1 H1 p acc2 M2 ι2 s2 H ∧ Ex M4 M2 ∧ (∀ (k : Nat) (a : Addr), ι4[k]? = some a → ι2[k]? = some a) ∧ (∀ d ∈ acc2, flat d = true) ∧ Post K (Rep K) Wx M1 ι1 H1 ((loopQ flat g1 t1 f (wipeD δ1 vs1) (ys.drop (i + 1)) acc2 s2).bind kk) Q, fun H' z => ⟨ys.length - (i + 1), by omega, rfl, hlt, z⟩, fun v H2 hy => ?_⟩
    obtain ⟨M2, t2, C2, r2⟩ := yl v H2 hy
    have w2 := w.go t2 C2
    have m2 : Ex M4 M2 := Ex.trans m4 t2.mm
    refine ⟨M2, ι', wipeD δ1 vs1, s', ys[i], C2, (S.mono m2 i4).wipe vs1, r2, ?_⟩
    unfold loopQ at P'
    revert P'
    cases g1 ys[i] (wipeD δ1 vs1) s' with
    | stuck => exact fun P' => P'
    | exc c s'' => exact fun P' => P'.elim
    | val δ3 s3 =>
      intro P' M3 ι3 H3 σ3 t3 C3 S3 hw
      have w3 := w2.go t3 C3
      have m3 := Ex.trans m2 t3.mm
      have i3 := fun k a h => t3.ii k a (i4 k a h)
      refine ⟨hw.trans wipe_wipe, M3, ι3, δ3, s3, C3, S3, ?_⟩
      have P3 : Post K (Rep K) Wx M1 ι1 H1 (((quiet (t1 δ3 s3)).bind fun b s2 => if b = true then (quiet (f δ3 s2)).bind fun d s3 => if flat d = true ∧ acc.length < 16000000 then loopQ flat g1 t1 f (wipeD δ1 vs1) (ys.drop (i + 1)) (acc ++ [d]) s3 else .stuck else loopQ flat g1 t1 f (wipeD δ1 vs1) (ys.drop (i + 1)) acc s2).bind kk) Q := P'
      revert P3
      cases t1 δ3 s3 with
      | stuck => exact fun P3 => P3
      | exc c s'' => exact fun P3 => P3.elim
      | val b s4 =>
        intro P3 M4' ι4' H4' b' t4 C4 hb
        subst hb
        have w4 := w3.go t4 C4
        have m4' := Ex.trans m3 t4.mm
        have i4' := fun k a h => t4.ii k a (i3 k a h)
        cases b' with
        | false => exact iteF ⟨M4', ι4', s4, acc, w4, m4', i4', fl, P3⟩
        | true =>
          refine iteT ⟨M4', ι4', δ3, s4, C4, S3.step t4, ?_⟩
          have P4 : Post K (Rep K) Wx M1 ι1 H1 (((quiet (f δ3 s4)).bind fun d s3 => if flat d = true ∧ acc.length < 16000000 then loopQ flat g1 t1 f (wipeD δ1 vs1) (ys.drop (i + 1)) (acc ++ [d]) s3 else .stuck).bind kk) Q := P3
          revert P4
          cases f δ3 s4 with
          | stuck => exact fun P4 => P4
          | exc c s'' => exact fun P4 => P4.elim
          | val d s5 =>
            intro P4 M5 ι5 H5 y t5 C5 r5
            have w5 := w4.go t5 C5
            have P5 : Post K (Rep K) Wx M1 ι1 H1 ((if flat d = true ∧ acc.length < 16000000 then loopQ flat g1 t1 f (wipeD δ1 vs1) (ys.drop (i + 1)) (acc ++ [d]) s5 else .stuck).bind kk) Q := P4
            by_cases hc : flat d = true ∧ acc.length < 16000000
            · rw [if_pos hc] at P5
              obtain ⟨us, h1, h2⟩ := w5.at_
              exact ⟨us, h1, by rw [h2.length]; exact Nat.lt_of_lt_of_le hc.2 (by decide), M5, ι5, s5, acc ++ [d], w5.put h1 h2 r5, Ex.trans m4' t5.mm, (fun k a h => t5.ii k a (i4' k a h)), (fun d' z => (List.mem_append.mp z).elim (fl d') fun z => by rw [List.mem_singleton.mp z]; exact hc.1), P5⟩
            · rw [if_neg hc] at P5
              exact P5.elim
  · have e : i = ys.length := by omega
    rw [e, List.drop_length] at P'
    exact .inl ⟨ok2 (by omega), hfin w fl P'⟩
theorem rd_lc2 {fi : AF} {vs vs1 : List Nat} {g g1 : GF} {t t1 : BF} {fi1 : AF} {f : EF} (σ : L2.St) (H : Hp) (Q : VK) (h : rdE K cl W (comp2F fi vs g t fi1 vs1 g1 t1 f) σ H Q) :
    tLc2 (rdI K cl W fi) (rdGC K vs g) (rdT K cl W0 t) (rdI K cl W0 fi1) (rdGC K vs1 g1) (rdT K cl W0 t1) (rdE K cl W0 f) vs vs1 σ H Q := by
  obtain ⟨M, ι, δ, s, C, S, P⟩ := h
  refine ⟨M, ι, δ, s, C, S, Post.mono (Post.bind (CI K) P) fun J H1 m p hp => ?_⟩
  obtain ⟨M1, ι1, xs, s1, t1', C1, ok, P1⟩ := m.ex
  have S1 := S.step t1'
  refine ⟨fun i m H => m = xs.length - i ∧ i ≤ xs.length ∧ ∃ M' ι' s' acc, Way K M1 ι1 H1 p acc M' ι' s' H ∧ (∀ d ∈ acc, flat d = true) ∧ Post K (Rep K) (wx cl W σ) M1 ι1 H1 ((loop2 g t fi1 vs1 g1 t1 f (wipeD δ vs) (xs.drop i) acc s').bind fun ds s2 => .val (.lst ds) s2) Q, ⟨xs.length, by simp, Nat.zero_le _, M1, ι1, s1, [], Way.start C1 hp, (fun _ z => nomatch z), P1⟩, ?_⟩
  rintro i m H ⟨rfl, hi, M', ι', s', acc, w, fl, P'⟩
  obtain ⟨ok1, ok2⟩ := ok i M' ι' s' H w.st.mm w.C
  by_cases hlt : i < xs.length
  · obtain ⟨go, yl⟩ := ok1 _ (List.getElem?_eq_getElem hlt)
    rw [List.drop_eq_getElem_cons hlt] at P'
    refine .inr ⟨go, fun H => ∃ M2 ι2 s2 acc2, Way K M1 ι1 H1 p acc2 M2 ι2 s2 H ∧ (∀ d ∈ acc2, flat d = true) ∧ Post K (Rep K) (wx cl W σ) M1 ι1 H1 ((loop2 g t fi1 vs1 g1 t1 f (wipeD δ vs) (xs.drop (i + 1)) acc2 s2).bind fun ds s2 => .val (.lst ds) s2) Q, fun H' z => ⟨xs.length - (i + 1), by omega, rfl, hlt, z⟩, fun v H2 hy => ?_⟩
    obtain ⟨M2, t2, C2, r2⟩ := yl v H2 hy
    have w2 := w.go t2 C2
    refine ⟨M2, ι', wipeD δ vs, s', xs[i], C2, (S1.step w2.st).wipe vs, r2, ?_⟩
    unfold loop2 at P'
    revert P'
    cases g xs[i] (wipeD δ vs) s' with
    | stuck => exact fun P' => P'
    | exc c s'' => exact fun P' => P'.elim
    | val δ3 s3 =>
      intro P' M3 ι3 H3 σ3 t3 C3 S3 hw
      have w3 := w2.go t3 C3
      refine ⟨hw.trans wipe_wipe, M3, ι3, δ3, s3, C3, S3, ?_⟩
      have P3 : Post K (Rep K) (wx cl W σ) M1 ι1 H1 (((quiet (t δ3 s3)).bind fun b s2 => if b = true then (quiet (fi1 δ3 s2)).bind fun ys s3 => (loopQ flat g1 t1 f (wipeD δ3 vs1) ys acc s3).bind fun acc' s4 => loop2 g t fi1 vs1 g1 t1 f (wipeD δ vs) (xs.drop (i + 1)) acc' s4 else loop2 g t fi1 vs1 g1 t1 f (wipeD δ vs) (xs.drop (i + 1)) acc s2).bind fun ds s2 => .val (.lst ds) s2) Q := P'
      revert P3
      cases t δ3 s3 with
      | stuck => exact fun P3 => P3
      | exc c s'' => exact fun P3 => P3.elim
      | val b s4 =>
        intro P3 M4 ι4 H4 b' t4 C4 hb
        subst hb
        have w4 := w3.go t4 C4
        cases b' with
        | false => exact iteF ⟨M4, ι4, s4, acc, w4, fl, P3⟩
        | true =>
          refine iteT ⟨M4, ι4, δ3, s4, C4, S3.step t4, ?_⟩
          have P4 : Post K (Rep K) (wx cl W σ) M1 ι1 H1 (((quiet (fi1 δ3 s4)).bind fun ys s3 => (loopQ flat g1 t1 f (wipeD δ3 vs1) ys acc s3).bind fun acc' s4 => loop2 g t fi1 vs1 g1 t1 f (wipeD δ vs) (xs.drop (i + 1)) acc' s4).bind fun ds s2 => .val (.lst ds) s2) Q := P3
          revert P4
          cases fi1 δ3 s4 with
          | stuck => exact fun P4 => P4
          | exc c s'' => exact fun P4 => P4.elim
          | val ys s5 =>
            intro P4 M5 ι5 H5 J1 t5 C5 ok5
            have w5 := w4.go t5 C5
            have P5 : Post K (Rep K) (wx cl W σ) M1 ι1 H1 ((loopQ flat g1 t1 f (wipeD δ3 vs1) ys acc s5).bind fun acc' s4 => (loop2 g t fi1 vs1 g1 t1 f (wipeD δ vs) (xs.drop (i + 1)) acc' s4).bind fun ds s2 => .val (.lst ds) s2) Q := by
              rw [← bind_bind]; exact P4
            exact inner_lc ((S3.step t4).step t5) ok5 w5 fl (fun w fl P => ⟨_, _, _, _, w, fl, P⟩) P5
  · have e : i = xs.length := by omega
    rw [e, List.drop_length] at P'
    exact .inl ⟨ok2 (by omega), Way.froz w fl P'⟩
end
section
variable {X : Cx} {cl : Nat → Value} {W : WX} {pos : Pos}
theorem je_lc2 {elt tg iter tg1 iter1 : Expr} {ifs ifs1 : List Expr} {scope : Scope} {own : List (Str × Nat)} {vs vs1 : List Nat} {fi fi1 : AF} {g g1 : GF} {t t1 : BF} {f : EF} (hc : X.calm = true) (hN : X.N.Nodup) (hi : JI X cl W tg iter fi) (ok : BlkOk X.N X.env.scope scope own)
    (hg : ∀ (s : Shared) (H : Hp) (C : Addr) (cls : List (Str × Addr)) (fp : List Addr), JC (X.blk s H scope (compEnvC scope cls C X.env) fp) vs tg g) (ht : ∀ (s : Shared) (H : Hp) (C : Addr) (cls : List (Str × Addr)) (fp : List Addr), JTs (X.blk s H scope (compEnvC scope cls C X.env) fp) cl W0 ifs t)
    (hi1 : ∀ (s : Shared) (H : Hp) (C : Addr) (cls : List (Str × Addr)) (fp : List Addr), JI (X.blk s H scope (compEnvC scope cls C X.env) fp) cl W0 tg1 iter1 fi1)
    (hg1 : ∀ (s : Shared) (H : Hp) (C : Addr) (cls : List (Str × Addr)) (fp : List Addr), JC (X.blk s H scope (compEnvC scope cls C X.env) fp) vs1 tg1 g1) (ht1 : ∀ (s : Shared) (H : Hp) (C : Addr) (cls : List (Str × Addr)) (fp : List Addr), JTs (X.blk s H scope (compEnvC scope cls C X.env) fp) cl W0 ifs1 t1)
    (he : ∀ (s : Shared) (H : Hp) (C : Addr) (cls : List (Str × Addr)) (fp : List Addr), JE (X.blk s H scope (compEnvC scope cls C X.env) fp) cl W0 elt f) (hvs : own.map (·.2) = vs := by rfl) (hv : ∀ i ∈ vs1, i ∈ own.map (·.2) := by decide) (hs : ∀ x, foldedSetIterable iter X.env x = pure x := by intro _; rfl)
    (hs1 : ∀ env x, foldedSetIterable iter1 env x = pure x := by intro _ _; rfl) :
    JE X cl W (.ListComp elt [⟨tg, iter, ifs, 0⟩, ⟨tg1, iter1, ifs1, 0⟩] scope pos) (comp2F fi vs g t fi1 vs1 g1 t1 f) := by
  subst hvs
  exact (pe_lc2 hc hN hi ok hv hg ht hi1 hg1 ht1 he hs hs1).imp rd_lc2
theorem js_setLc2 {i : Nat} {y : Str} {py spos : Pos} {elt tg iter tg1 iter1 : Expr} {ifs ifs1 : List Expr} {scope : Scope} {own : List (Str × Nat)} {vs vs1 : List Nat} {fi fi1 : AF} {g g1 : GF} {t t1 : BF} {f : EF} (hc : X.calm = true) (hN : X.N.Nodup) (hsw : swapsWith (.ListComp elt [⟨tg, iter, ifs, 0⟩, ⟨tg1, iter1, ifs1, 0⟩] scope pos) (some (.Name y py)) spos.line X.env = pure true) (hi : JI X cl W tg iter fi) (ok : BlkOk X.N X.env.scope scope own)
    (hg : ∀ (s : Shared) (H : Hp) (C : Addr) (cls : List (Str × Addr)) (fp : List Addr), JC (X.blk s H scope (compEnvC scope cls C X.env) fp) vs tg g) (ht : ∀ (s : Shared) (H : Hp) (C : Addr) (cls : List (Str × Addr)) (fp : List Addr), JTs (X.blk s H scope (compEnvC scope cls C X.env) fp) cl W0 ifs t)
    (hi1 : ∀ (s : Shared) (H : Hp) (C : Addr) (cls : List (Str × Addr)) (fp : List Addr), JI (X.blk s H scope (compEnvC scope cls C X.env) fp) cl W0 tg1 iter1 fi1)
    (hg1 : ∀ (s : Shared) (H : Hp) (C : Addr) (cls : List (Str × Addr)) (fp : List Addr), JC (X.blk s H scope (compEnvC scope cls C X.env) fp) vs1 tg1 g1) (ht1 : ∀ (s : Shared) (H : Hp) (C : Addr) (cls : List (Str × Addr)) (fp : List Addr), JTs (X.blk s H scope (compEnvC scope cls C X.env) fp) cl W0 ifs1 t1)
    (he : ∀ (s : Shared) (H : Hp) (C : Addr) (cls : List (Str × Addr)) (fp : List Addr), JE (X.blk s H scope (compEnvC scope cls C X.env) fp) cl W0 elt f) (hy : X.N[i]? = some y := by rfl) (hyl : X.env.scope.names.lookup y = some .local := by rfl) (hvs : own.map (·.2) = vs := by rfl) (hv : ∀ i ∈ vs1, i ∈ own.map (·.2) := by decide) (hs : ∀ x, foldedSetIterable iter X.env x = pure x := by intro _; rfl)
    (hs1 : ∀ env x, foldedSetIterable iter1 env x = pure x := by intro _ _; rfl) :
    JS X cl W (.Assign [.Name y py] (.ListComp elt [⟨tg, iter, ifs, 0⟩, ⟨tg1, iter1, ifs1, 0⟩] scope pos) spos) (setS i (comp2F fi vs g t fi1 vs1 g1 t1 f)) := by
  subst hvs
  exact (ps_setLc2 hc hN hy hyl hsw hi ok hv hg ht hi1 hg1 ht1 he hs hs1).imp fun D σ H h => rd_set rd_lc2 D σ H h
end
/-! ### range(i, j, c), c > 0 -/
def upC (lo c : Int) (n : Nat) : List D := (List.range n).map fun (i : Nat) => .int (lo + (i : Int) * c)
def rng3F (f : AF) : AF := fun δ s => (f δ s).bind fun ds s1 => match ds with
  | [.int i, .int j, .int c] => if sm i = true ∧ sm j = true ∧ 0 < c ∧ c ≤ 1000 then .val (upC i c (if i < j then ((j - i - 1) / c + 1).toNat else 0)) s1 else .stuck
  | _ => .stuck
theorem itOk_rngC {K : PySem.W.Frag} {M : Hp} {lo c : Int} {n : Nat} : ItOk K M (Itc lo c n) (upC lo c n) := by
  intro i M1 ι1 s1 H1 e C
  constructor
  · intro d hd
    unfold upC at hd
    rw [List.getElem?_map] at hd
    obtain ⟨j, h1, rfl⟩ := Option.map_eq_some_iff.mp hd
    have hi : i < n := by have := (List.getElem?_eq_some_iff.mp h1).1; simpa using this
    have hj : j = i := by rw [List.getElem?_range hi] at h1; exact (Option.some.inj h1).symm
    subst hj
    refine ⟨hi, fun v' H2 y => ?_⟩
    obtain ⟨rfl, rfl⟩ := y
    exact ⟨M1, Step.refl, C, rf_int⟩
  · intro hi
    show n ≤ i
    rw [hi]; simp [upC]
theorem rgC_pos {i j c : Int} (hi : sm i = true) (hj : sm j = true) (h0 : 0 < c) (h1 : c ≤ 1000) : RgC i j c (if i < j then ((j - i - 1) / c + 1).toNat else 0) := by
  have ⟨i1, i2⟩ := sm_lt hi
  have ⟨j1, j2⟩ := sm_lt hj
  have hs : sm i = true := hi
  unfold sm at hi hj
  simp only [Bool.and_eq_true, decide_eq_true_eq] at hi hj
  have hq : i < j → 0 ≤ (j - i - 1) / c ∧ (j - i - 1) / c ≤ j - i - 1 := fun h => ⟨Int.ediv_nonneg (by omega) (by omega), Int.ediv_le_self _ (by omega)⟩
  have hsz : Builtin.Range.rangeSize i j c = ((if i < j then ((j - i - 1) / c + 1).toNat else 0 : Nat) : Int) := by
    unfold Builtin.Range.rangeSize
    rw [if_pos h0]
    split
    · have := hq (by assumption); omega
    · rfl
  refine ⟨by omega, by omega, ?_, hsz⟩
  unfold Builtin.Range.small
  rw [hsz]
  simp only [Builtin.Range.rangeFitsLong, Bool.and_eq_true, Bool.or_eq_true, decide_eq_true_eq, beq_iff_eq]
  rw [if_pos h0]
  simp only [Bool.and_eq_true, decide_eq_true_eq]
  have hn : (0 : Int) ≤ ((if i < j then ((j - i - 1) / c + 1).toNat else 0 : Nat) : Int) ∧ ((if i < j then ((j - i - 1) / c + 1).toNat else 0 : Nat) : Int) ≤ 2 ^ 62 := by
    split
    · have := hq (by assumption); omega
    · omega
  generalize ((if i < j then ((j - i - 1) / c + 1).toNat else 0 : Nat) : Int) = N at hn ⊢
  omega
section
variable {X : Cx} {cl : Nat → Value} {W : WX} {a b c : Expr} {fr : AF} {pos : Pos}
theorem ji_range3 {tg : Expr} {p : Pos} (hg : Gl X "range") (hm : X.mg "range" = none) (ha : JA X cl W [a, b, c] fr) (hs : starEach [a, b, c] X.env = (false, eval a X.env) :: starEach [b, c] X.env := by rfl) (hpl : (backTo pos (starEach [b, c] X.env)).any (·.1) = false := by rfl) :
    JI X cl W tg (.Call (.Name "range" p) [a, b, c] [] pos) (rng3F fr) := (pi_range3 hg hm ha hs hpl).imp fun σ H R h => by
  obtain ⟨M, ι, δ, s, C, S, P⟩ := h
  refine ⟨M, ι, δ, s, C, S, Post.mono (Post.bind (Reps X.K) P) fun u H1 m => ?_⟩
  obtain ⟨M1, ι1, x, s1, t1, C1, r1, P1⟩ := m.ex
  split at P1
  · split at P1
    · rename_i i j k hj
      cases r1 with
      | cons q1 r1 =>
        obtain ⟨v, w, rfl, r2, r3⟩ := r1.two
        cases q1.int
        cases r2.int
        cases r3.int
        exact ⟨i, j, k, _, rfl, rgC_pos hj.1 hj.2.1 hj.2.2.1 hj.2.2.2, Post.now (C := CI X.K) P1 C1 itOk_rngC⟩
    · exact P1.elim
  · exact P1.elim
end
/-! ### list.count of texts -/
section
variable {X : Cx}
def rCntS (K : PySem.W.Frag) : V → List V → Hp → VK → Prop := fun x xs H Q => ∃ (p : Addr) (ns : List Str) (k : Str), x = .ref p ∧ xs = [.str k] ∧ SqL K H p (ns.map V.str) ∧ Q (.int (countIn (.str k) (ns.map PyData.str))) H
theorem mt_lcountS : MtR X "list.count" (rCntS X.K) := by
  intro pins s σ H x xs v us Q I rx rxs h
  obtain ⟨p, ns, k, rfl, rfl, hs, q⟩ := h
  cases rx
  obtain ⟨u, rfl, ru⟩ := rxs.one
  obtain ⟨t, rfl⟩ := ru
  obtain ⟨its, rv, hl, hlen⟩ := I.list hs
  have hi := Vals.strs rv
  refine count_list_strs (vs := its) ?_ hi ⟨_, H, I.tok _, ?_, q⟩
  · obtain ⟨o, n, h1, h2, h3, h4⟩ := hl
    exact ⟨o, h1, h2, n, h4⟩
  · exact ⟨s.toks, rfl⟩
end
def cntL (s : Sto) (x : D) : List D → O D
  | [.str k] => match x with
    | .lst ds => match strsD ds with
      | some zs => .val (.int (zs.count k : Nat)) s
      | none => .stuck
    | _ => .stuck
  | _ => .stuck
def isLst (_ : Sto) : D → Bool
  | .lst _ => true
  | _ => false
theorem ty_lst {K : PySem.W.Frag} : TyM K "list" isLst := fun M ι s H x u C r h => by
  cases x with
  | lst ds =>
    obtain ⟨a, vs, rfl, h1, h2⟩ := r.lst
    exact .inl ⟨rfl, vs, SqL.of (C.sub _ _ h1)⟩
  | _ => cases h
theorem countIn_strs (k : List Nat) : ∀ zs : List (List Nat), countIn (.str (⟨k.toArray⟩ : Str)) ((zs.map fun cs => (⟨cs.toArray⟩ : Str)).map PyData.str) = ((zs.count k : Nat) : Int)
  | [] => rfl
  | z :: zs => by
    have ih := countIn_strs k zs
    rw [List.map_cons, List.map_cons, countIn, ih, List.count_cons]
    have e : ((⟨z.toArray⟩ : Str) == (⟨k.toArray⟩ : Str)) = (z == k) := SX.S_beq z k
    simp only [same, e]
    split <;> omega
theorem ok_lcount {K : PySem.W.Frag} : OkM K "list" (rCntS K) cntL := fun Wx M ι s H x u xs us Q C rx rs P => by
  unfold cntL at P
  split at P
  · rename_i k
    obtain ⟨w, rfl, ry⟩ := rs.one
    obtain ⟨rfl, _⟩ := ry.str
    split at P
    · rename_i ds
      split at P
      · rename_i zs hz
        obtain ⟨b, ws, rfl, g1, g2⟩ := rx.lst
        obtain ⟨q1, q2⟩ := strs_v g2 hz
        refine ⟨b, zs.map fun cs => ⟨cs.toArray⟩, _, rfl, rfl, ?_, ?_⟩
        · have e2 : ws = (zs.map fun cs => (⟨cs.toArray⟩ : Str)).map V.str := by rw [q1, List.map_map]; rfl
          rw [← e2]; exact SqL.of (C.sub _ _ g1)
        · rw [countIn_strs]
          exact Post.now (C := Rep K) P C rf_int
      · exact P.elim
    · exact P.elim
  · exact P.elim
/-! ### f() -/
theorem pe_callS0 {X : Cx} {CX : CXT} {k : Nat} {f : Addr} {fd : FuncData} {ps : List Str} {sp : Sp} {E : L2.St → XK} {x : Str} {p pos : Pos} (F : FnOk X.prog X.w X.K X.mg X.base CX k f fd ps sp) (hr : Room k X.A) (hg : Gl X x) (hm : X.mg x = some (.ref f)) (hk : PySem.W.keepIn X.K (.ref f) = true) (hb : Binds X.K fd ps []) (hx : ∀ σ, PassesAt CX X σ (E σ))
    (hdb : (x == ("__debug__" : Str)) = false := by decide) : PE X (.Call (.Name x p) [] [] pos) (tCallS sp E tNil) := by
  refine ⟨fun pins s σ H Q I h => ?_⟩
  refine wpAny_Call_Name_kw (ld_glob I hg hm ?_ hdb)
  exact PySem.W.callWith_K0 I.kIn hk (run_fnS (us := []) F hr hb (hx σ) I .nil h)
theorem je_call0 {X : Cx} {cl : Nat → Value} {W : WX} {x : Str} {p pos : Pos} {n k j : Nat} {F : FF} (J : JFn X.prog X.w X.K X.mg X.base cl k x n F) (hr : Room j X.A) (hk : k ≤ j) (tk : Takes X W) (hg : Gl X x)
    (hdb : (x == ("__debug__" : Str)) = false := by decide) : JE X cl W (.Call (.Name x p) [] [] pos) (callF n F nil) := by
  obtain ⟨f, hm, J⟩ := J.ex
  obtain ⟨fd, ps, kp, b, G⟩ := J.ex
  refine (pe_callS0 G (hr.mono hk) hg hm kp b (fun σ => passAt tk σ) hdb).imp fun σ H Q h => ?_
  obtain ⟨M, ι, δ, s, C, S, Pq⟩ := h
  unfold callF nil at Pq
  simp only [O.bind_val] at Pq
  split at Pq
  · rename_i hn
    exact ⟨M, ι, s, [], C, .nil, hn, Pq⟩
  · exact Pq.elim
end Fl
set_option Elab.async false
set_option linter.all false
set_option maxRecDepth 100000
/-! a head with properties; properties read. -/
namespace Fl
open PySem PySem.Spec PyProof.Rows L2
/-- the def behind a property, a classmethod, a staticmethod m of the class x -/
def recA (x m : Str) (T : String) (K : PySem.W.Frag) : Addr := match PySem.W.recIn K (He.ma K (He.ga K x) m) T with
  | some (.ref g :: _) => g
  | _ => 0
inductive Fb where
  | tup (x : Str) (cs : List (List Nat))
  | prop (x f : Str)
  | ops (x : Str)
  | isi (x : Str)
def atB (K : PySem.W.Frag) (x m : Str) : Bool := He.eqO (PySem.W.findIn K (.ref (He.ga K x)) m) (some (some (.ref (He.ma K (He.ga K x) m))))
def recB (K : PySem.W.Frag) (x m : Str) (T : String) : Bool := match PySem.W.recIn K (He.ma K (He.ga K x) m) T with
  | some (.ref g :: _) => true
  | _ => false
theorem recB_ok {K : PySem.W.Frag} {x m : Str} {T : String} (h : recB K x m T = true) : ∃ rest, PySem.W.recIn K (He.ma K (He.ga K x) m) T = some (.ref (recA x m T K) :: rest) := by
  unfold recB at h
  unfold recA
  split at h
  · rename_i g rest e
    exact ⟨rest, by rw [e]⟩
  · cases h
def Fb.ok (K : PySem.W.Frag) : Fb → Bool
  | .tup x cs => He.tupB K x (cs.map fun c => He.Dv.str ⟨c.toArray⟩)
  | .prop x f => atB K x f && (He.eqO (PySem.W.specialIn K (.ref (He.ma K (He.ga K x) f)) "__get__") (some (some (.builtin "property.__get__"))) && (decide (PySem.W.takesIn K (.ref (He.ma K (He.ga K x) f)) = some true) && recB K x f "property"))
  | .ops x => PySem.W.selfFirst K (He.ga K x) && (PySem.W.notFirst K (He.ga K x) (.type "str") && (PySem.W.notFirst K (He.ga K x) (.type "tuple") && (He.eqO (PySem.W.findIn K (.ref (He.ga K x)) "__ne__") (some (some (.builtin "object.__ne__"))) && decide (PySem.W.subIn K (.ref (He.ga K x)) (.type "object") = some true))))
  | .isi x => He.eqO (PySem.W.findIn K (.ref (He.ga K x)) "__class__") (some (some (.builtin "object.__class__"))) && (He.eqO (PySem.W.specialIn K (.builtin "object.__class__") "__get__") (some (some (.builtin "getset_descriptor.__get__"))) && (decide (PySem.W.takesIn K (.builtin "object.__class__") = some true) &&
    (decide (PySem.W.mroIn K (He.ga K x) (.type "object") = some true) && (decide (PySem.W.kitOne K (.type "str") (.ref (He.ga K x)) = some false) && decide (PySem.W.kitOne K (.type "tuple") (.ref (He.ga K x)) = some false)))))
theorem prop_ok {K : PySem.W.Frag} {x f : Str} (h : (Fb.prop x f).ok K = true) : PropOf K (He.ga K x) f (He.ma K (He.ga K x) f) (recA x f "property" K) := by
  obtain ⟨a, h⟩ := He.ba h
  obtain ⟨b, h⟩ := He.ba h
  obtain ⟨c, d⟩ := He.ba h
  exact ⟨He.eqO_ok a, He.eqO_ok b, of_decide_eq_true c, recB_ok d⟩
/-- one def more, found by an address of its own -/
structure DefX where
  adr : PySem.W.Frag → Addr
  name : Str
  qual : Str
  params : Arguments
  body : List Stmt
  scope : Scope
  kwd : List (Str × He.Dv) := []
def fnX (K : PySem.W.Frag) (a : Addr) : He.FnW := match K.lookup a with
  | some ⟨_, _, .func fd, _⟩ => some (fd.name, fd.qualname, fd.params, fd.body, fd.scope, fd.globals, fd.closure, fd.builtins)
  | _ => none
def DefX.val (d : DefX) : He.FnW := some (d.name, d.qual, d.params, .stmts d.body, d.scope, mainGlobals, [], builtinsNs)
def DefX.kws (K : PySem.W.Frag) (d : DefX) : List (Str × V) := d.kwd.map fun q => (q.1, q.2.v K)
def DefX.ok (K : PySem.W.Frag) (d : DefX) : Bool := PySem.W.keepIn K (.ref (d.adr K)) && (match K.lookup (d.adr K) with
  | some ⟨_, _, .func fd, _⟩ => PySem.W.codeIn K fd.code d.qual && (He.dflB K fd.defaults [] && He.kwdB K fd.kwdefaults (d.kws K))
  | _ => false)
theorem DefX.funD {K : PySem.W.Frag} {d : DefX} (e : fnX K (d.adr K) = d.val) (c : d.ok K = true) : ∃ fd, FunD K d.name d.qual d.params d.body d.scope [] (d.kws K) (d.adr K) fd := by
  obtain ⟨kp, cc⟩ := He.ba c
  unfold fnX at e
  revert e cc
  cases lk : K.lookup (d.adr K) with
  | none => intro e cc; cases cc
  | some o =>
    obtain ⟨o1, o2, dt, o4⟩ := o
    cases dt with
    | func fd =>
      intro e cc
      simp only [DefX.val, Option.some.injEq, Prod.mk.injEq] at e
      obtain ⟨m1, m2, m3, m4, m5, m6, m7, m8, m9, m10, m11, m12, m13, m14, m15⟩ := fd
      obtain ⟨rfl, rfl, rfl, rfl, rfl, rfl, rfl, rfl⟩ := e
      obtain ⟨y1, y2⟩ := He.ba cc
      obtain ⟨y3, y4⟩ := He.ba y2
      exact ⟨_, ⟨o1, o2, m8, m9, m10, m11, m12, m13, m14, o4, rfl, lk, y1, He.dflB_ok y3, He.kwdB_ok y4⟩, kp⟩
    | _ => intro e cc; cases cc
abbrev AlU : Type := (He.AlD × Bool) × (Bool × List He.FnW)
def obsU (fa : List He.Fa) (fn : List He.DefD) (fb : List Fb) (fx : List DefX) (K : PySem.W.Frag) : AlU := ((He.obsD fa fn K, fb.all fun f => f.ok K), (fx.all fun d => d.ok K, fx.map fun d => fnX K (d.adr K)))
def valU (fn : List He.DefD) (fx : List DefX) : AlU := ((He.valD fn, true), (true, fx.map DefX.val))
def SaysU (fa : List He.Fa) (fn : List He.DefD) (fb : List Fb) (fx : List DefX) (K : PySem.W.Frag) : Prop := obsU fa fn fb fx K = valU fn fx
def obsUG (n : Nat) (fa : List He.Fa) (fn : List He.DefD) (fb : List Fb) (fx : List DefX) (g : Addr → Option Obj) : AlU := obsU fa fn fb fx (He.frG g (He.asD g n))
def hookU (n : Nat) (fa : List He.Fa) (fn : List He.DefD) (fb : List Fb) (fx : List DefX) : PySem.W.Hook where
  α := AlU
  obs := fun s => obsUG n fa fn fb fx s.heap.get?
  val := fun _ => valU fn fx
  says := fun _ h => ∃ K : PySem.W.Frag, K.In h ∧ SaysU fa fn fb fx K
  of := fun _ _ e => ⟨_, He.frG_in, e⟩
  keeps := fun _ _ _ ⟨K, hK, c⟩ k => ⟨K, PySem.W.Frag.In.keeps hK k, c⟩
theorem obsUG_eq {n : Nat} {fa : List He.Fa} {fn : List He.DefD} {fb : List Fb} {fx : List DefX} {g : Addr → Option Obj} {s : Shared} (h : ∀ a, g a = s.heap.get? a) : obsUG n fa fn fb fx g = (hookU n fa fn fb fx).obs s := by
  have e : g = s.heap.get? := funext h
  rw [e]; rfl
section
variable {fa : List He.Fa} {fn : List He.DefD} {fb : List Fb} {fx : List DefX} {K : PySem.W.Frag}
theorem SaysU.d (c : SaysU fa fn fb fx K) : He.SaysD fa fn K := congrArg (fun z : AlU => z.1.1) c
theorem SaysU.own (c : SaysU fa fn fb fx K) (i : Nat) {f : Fb} (h : fb[i]? = some f := by rfl) : f.ok K = true := by
  have c2 : (fb.all fun f => f.ok K) = true := congrArg (fun z : AlU => z.1.2) c
  exact List.all_eq_true.mp c2 f (List.mem_of_getElem? h)
theorem SaysU.tup (c : SaysU fa fn fb fx K) (i : Nat) {x : Str} {cs : List (List Nat)} (h : fb[i]? = some (.tup x cs) := by rfl) : KT K (He.ga K x) (cs.map fun c => V.str ⟨c.toArray⟩) := by
  have h1 := He.tupB_ok (show He.tupB K x (cs.map fun c => He.Dv.str ⟨c.toArray⟩) = true from c.own i h) (fun _ => none)
  rw [List.map_map] at h1
  rcases h1 with h1 | h1
  · rcases h1 with h1 | ⟨o, h1⟩ <;> cases h1
  · obtain ⟨o, its, n, q1, q2, q3, q4, q5⟩ := h1
    exact ⟨o, its, n, q1, q2, q3, q4, q5⟩
theorem SaysU.more (c : SaysU fa fn fb fx K) (i : Nat) {d : DefX} (h : fx[i]? = some d := by rfl) : ∃ fd, FunD K d.name d.qual d.params d.body d.scope [] (d.kws K) (d.adr K) fd := by
  have c2 : (fx.all fun d => d.ok K) = true := congrArg (fun z : AlU => z.2.1) c
  have e : fx.map (fun d => fnX K (d.adr K)) = fx.map DefX.val := congrArg (fun z : AlU => z.2.2) c
  have e2 : (fx.map fun d => fnX K (d.adr K))[i]? = (fx.map DefX.val)[i]? := by rw [e]
  rw [List.getElem?_map, List.getElem?_map, h] at e2
  exact DefX.funD (Option.some.inj e2) (List.all_eq_true.mp c2 d (List.mem_of_getElem? h))
end
/-! ### properties -/
section
variable {P : Program} {w : World} {K : PySem.W.Frag} {mg : Str → Option Value} {base : Heap} {cl : Nat → Value}
/-- the property f of the class c -/
structure JPr (P : Program) (w : World) (K : PySem.W.Frag) (mg : Str → Option Value) (base : Heap) (cl : Nat → Value) (k c : Nat) (f : Str) (F : FF) : Prop where
  ex : ∃ p g : Addr, PropOf K (He.ga K (cname c)) f p g ∧ JAt P w K mg base cl k g 1 F
end
/-- nothing raised -/
def noE : O D → O D
  | .exc _ _ => .stuck
  | o => o
theorem Post.noE {K : PySem.W.Frag} {Wx Wx' : Nat → Hp → Prop} {M : Hp} {ι : List Addr} {H : Hp} {o : O D} {Q : VK} (h : Post K (Rep K) Wx M ι H (noE o) Q) : Post K (Rep K) Wx' M ι H o Q := by
  cases o with
  | stuck => exact h
  | val a s => exact h
  | exc c s => exact h.elim
def propF (c : Nat) (F : FF) (fo : EF) : EF := fun δ s => (fo δ s).bind fun x s1 => match x with
  | .ob k => match s1[k]? with
    | some (.ins c' _) => if c' = c then noE (F [.ob k] s1) else .stuck
    | _ => .stuck
  | _ => .stuck
theorem passes_none {X : Cx} {P : Program} {w : World} : Passes (L2.CX P w) X (fun _ _ _ => False) := fun pins σ H s e s' I c => by
  obtain ⟨_, _, _, _, _, _, _, _, _, _, _, _, z⟩ := c
  exact z.elim
section
variable {X : Cx} {cl : Nat → Value} {W : WX} {e : Expr} {f : Str} {pos : Pos} {fo : EF} {c k j : Nat} {F : FF}
theorem je_prop (J : JPr X.prog X.w X.K X.mg X.base cl k c f F) (hc : ClsOk X.K c) (hr : Room j X.A) (hk : k + 1 ≤ j) (he : JE X cl W e fo) (hab : attributeBase e f X.env (eval e X.env) = eval e X.env := by rfl) : JE X cl W (.Attribute e f pos) (propF c F fo) := by
  obtain ⟨p, g, hp, J⟩ := J.ex
  obtain ⟨fd, ps, kp, b, G⟩ := J.ex
  refine (pe_prop (dvs := []) (ds := []) (E := fun _ _ _ => False) he hc.cls hp G (hr.mono hk) b .nil passes_none hab).imp fun σ H Q h => ?_
  obtain ⟨M, ι, δ, s, C, S, Pq⟩ := h
  refine ⟨M, ι, δ, s, C, S, Post.mono (Post.bind (Rep X.K) Pq) fun u H1 m1 => ?_⟩
  obtain ⟨M1, ι1, xd, s1, t1, C1, r1, P1⟩ := m1.ex
  split at P1
  · rename_i kk
    split at P1
    · rename_i c' ds ee
      split at P1
      · rename_i hcc
        subst hcc
        obtain ⟨a, rfl, hk2⟩ := r1
        obtain ⟨hM1, dx, vs, h1, r2⟩ := C1.obs kk a _ hk2 ee
        exact ⟨a, dx, _, rfl, h1, M1, ι1, s1, [.ob kk], C1, .cons ⟨a, rfl, hk2⟩ .nil, rfl, Post.noE P1⟩
      · exact P1.elim
    · exact P1.elim
  · exact P1.elim
end
end Fl
set_option Elab.async false
set_option linter.all false
set_option maxRecDepth 100000
/-! operators of own classes: + and its like, <=, ==, !=, [], len, bool, truth. -/
namespace Fl
open PySem PySem.Spec PyProof.Rows L2
/-- what of the text a class must have for its operators -/
structure ClsOps (K : PySem.W.Frag) (c : Nat) : Prop where
  self : PySem.W.selfFirst K (He.ga K (cname c)) = true
  nstr : PySem.W.notFirst K (He.ga K (cname c)) (.type "str") = true
  ntup : PySem.W.notFirst K (He.ga K (cname c)) (.type "tuple") = true
  ne_ : PySem.W.findIn K (.ref (He.ga K (cname c))) "__ne__" = some (some (.builtin "object.__ne__"))
  ob : PySem.W.subIn K (.ref (He.ga K (cname c))) (.type "object") = some true
section
variable {X : Cx} {k : Nat} {f C : Addr} {fd : FuncData} {ps : List Str} {sp : Sp} {E : L2.St → XK} {pins : List (Addr × Obj)} {σ : L2.St} {H : Hp} {s : Shared} {Q : VK} {us : List Value} {vs : List V}
theorem cmpBack_of {u : Value} (h : EP X pins σ Q u s) : PySem.W.CmpBack (EP X pins σ Q) u s := by
  obtain ⟨v, H', I, r, q⟩ := h
  have h' : EP X pins σ Q u s := ⟨v, H', I, r, q⟩
  cases v with
  | non => cases (show u = Value.none from r); exact h'
  | bl b => cases (show u = Value.bool b from r); exact h'
  | int i => obtain ⟨t, rfl⟩ := (show ∃ t, u = Value.int i t from r); exact h'
  | str x => obtain ⟨t, rfl⟩ := (show ∃ t, u = Value.str x t from r); exact h'
  | byt x => obtain ⟨t, rfl⟩ := (show ∃ t, u = Value.bytes x t from r); exact h'
  | flt x => obtain ⟨t, rfl⟩ := (show ∃ t, u = Value.float x t from r); exact h'
  | ref a => cases (show u = Value.ref a from r); exact h'
  | ty n => cases (show u = Value.type n from r); exact h'
/-- a call from within a built-in -/
theorem run_fnS1 (F : FnOk X.prog X.w X.K X.mg X.base (L2.CX X.prog X.w) k f fd ps sp) (hr : Room (k + 1) X.A) (hb : Binds X.K fd ps []) (hx : PassesAt (L2.CX X.prog X.w) X σ (E σ))
    (I : Inv X pins σ H s) (r : Vals vs us) (h : sp vs H Q (E σ)) : wpAny (model X.prog X.w) X.A.in1 (call (.ref f) us) (EP X pins σ Q) X.xe s := by
  have hl : us.length = ps.length := by rw [← r.length]; exact F.len _ _ _ _ h
  have b := hb s us I.kIn (by rw [List.append_nil]; exact hl)
  rw [List.append_nil] at b
  refine wpAny_call (codeAny_mono (F.run X.A.in1 X.stack s H ⟨us, []⟩ us vs Q (E σ) hr.in1 I.env0.in1 b r h) fun r s' hq => ?_)
  cases r with
  | error e => exact hx pins H s e s' I hq
  | ok fl =>
    cases fl with
    | ret u => exact I.after hq
    | next => exact hq.elim
    | brk => exact hq.elim
    | cont => exact hq.elim
/-! ### readings that follow the slots -/
def tOpS (r : L2.St → R2) (ta tb : TE) : TE := fun σ H Q => tOp (r σ) ta tb σ H Q
/-- both of the class C -/
def rOwn2 (C : Addr) (sp : Sp) (E : L2.St → XK) : L2.St → R2 := fun σ x y H Q => ∃ a b dx dy fs gs, x = .ref a ∧ y = .ref b ∧ H a = some (.ins C dx fs) ∧ H b = some (.ins C dy gs) ∧ sp [.ref a, .ref b] H Q (E σ)
/-- the first of the class C -/
def rOwn1 (C : Addr) (sp : Sp) (E : L2.St → XK) : L2.St → R2 := fun σ x y H Q => ∃ a dx fs, x = .ref a ∧ H a = some (.ins C dx fs) ∧ sp [.ref a, y] H Q (E σ)
end
section
variable {X : Cx} {k : Nat} {f C : Addr} {fd : FuncData} {ps : List Str} {sp : Sp} {E : L2.St → XK} {a b : Expr} {ta tb : TE} {pos : Pos}
theorem pe_binO {op : Operator} (hs : PySem.W.selfFirst X.K C = true) (hm : Meth X.K C (PySem.dunder op.info.2) f) (F : FnOk X.prog X.w X.K X.mg X.base (L2.CX X.prog X.w) k f fd ps sp) (hr : Room k X.A) (hb : Binds X.K fd ps []) (hx : ∀ σ, PassesAt (L2.CX X.prog X.w) X σ (E σ))
    (ha : PE X a ta) (hb2 : PE X b tb) : PE X (.BinOp a op b pos) (tOpS (rOwn2 C sp E) ta tb) := by
  refine ⟨fun pins s σ H Q I h => ?_⟩
  refine wpAny_BinOp (binT ha hb2 I h fun v u s2 x y H2 I2 rx ry q => ?_)
  obtain ⟨p, q2, dx, dy, fs, gs, rfl, rfl, h1, h2, hsp⟩ := q
  obtain rfl : v = Value.ref p := rx
  obtain rfl : u = Value.ref q2 := ry
  obtain ⟨ox, od, J⟩ := cls_inst I2 h1
  obtain ⟨oy, od', J'⟩ := cls_inst I2 h2
  obtain ⟨m, hF⟩ := I2.fr
  exact PySem.W.binop_K hF I2.ok.mod.kin J J'.type hs hm.at_ hm.fn (wpAny_mono (run_fnS (us := [.ref p, .ref q2]) (vs := [.ref p, .ref q2]) F hr hb (hx σ) I2 (.cons rfl (.cons rfl .nil)) hsp) (fun _ _ z => cmpBack_of z) fun _ _ z => z)
theorem own_cmp {op : CmpOp} {pins : List (Addr × Obj)} {σ : L2.St} {H : Hp} {s : Shared} {Q : VK} {p : Addr} {dx : Addr} {fs : List (Str × V)} {y : V} {u tb : Value} (hm : Meth X.K C (cmpInfo op).2.1 f) (F : FnOk X.prog X.w X.K X.mg X.base (L2.CX X.prog X.w) k f fd ps sp) (hr : Room k X.A) (hb : Binds X.K fd ps []) (hx : PassesAt (L2.CX X.prog X.w) X σ (E σ))
    (I : Inv X pins σ H s) (h1 : H p = some (.ins C dx fs)) (ry : RelV y u) (hty : PySem.W.Looks (model X.prog X.w) s.heap (typeOf u) tb) (hn : PySem.W.notFirst X.K C tb = true) (hsp : sp [.ref p, y] H Q (E σ)) : wpAny (model X.prog X.w) X.A (richCompare op (.ref p) u) (EP X pins σ Q) X.xe s := by
  obtain ⟨ox, od, J⟩ := cls_inst I h1
  obtain ⟨m, hF⟩ := I.fr
  exact PySem.W.cmp_K hr.units0 hF I.ok.mod.kin J hty hn hm.at_ hm.fn (wpAny_mono (run_fnS (us := [.ref p, u]) (vs := [.ref p, y]) F hr hb hx I (.cons rfl (.cons ry .nil)) hsp) (fun _ _ z => cmpBack_of z) fun _ _ z => z)
theorem own_self : PySem.W.notFirst X.K C (.ref C) = true := by simp [PySem.W.notFirst]
theorem pe_leO (hm : Meth X.K C "__le__" f) (F : FnOk X.prog X.w X.K X.mg X.base (L2.CX X.prog X.w) k f fd ps sp) (hr : Room k X.A) (hb : Binds X.K fd ps []) (hx : ∀ σ, PassesAt (L2.CX X.prog X.w) X σ (E σ))
    (ha : PE X a ta) (hb2 : PE X b tb) : PE X (.Compare a [.LtE] [b] pos) (tOpS (rOwn2 C sp E) ta tb) := by
  refine ⟨fun pins s σ H Q I h => ?_⟩
  refine wpAny_Compare1 (binT ha hb2 I h fun v u s2 x y H2 I2 rx ry q => ?_) (nomark _)
  obtain ⟨p, q2, dx, dy, fs, gs, rfl, rfl, h1, h2, hsp⟩ := q
  obtain rfl : v = Value.ref p := rx
  obtain rfl : u = Value.ref q2 := ry
  obtain ⟨oy, od', J'⟩ := cls_inst I2 h2
  exact PySem.W.cmp_ofLtE (own_cmp (op := .LtE) (y := .ref q2) (u := .ref q2) hm F hr hb (hx σ) I2 h1 rfl J'.type own_self hsp)
/-- y: a text, a tuple, one of the same class -/
def rEqO (K : PySem.W.Frag) (C : Addr) (sp : Sp) (g : Bool → Bool) : R2 := fun x y H Q => ∃ a dx fs, x = .ref a ∧ H a = some (.ins C dx fs) ∧ ((∃ z, y = .str z) ∨ (∃ b ys, y = .ref b ∧ SqT K H b ys) ∨ ∃ b dy gs, y = .ref b ∧ H b = some (.ins C dy gs)) ∧ sp [.ref a, y] H (fun v H' => ∃ b, v = .bl b ∧ Q (.bl (g b)) H') (fun _ _ _ => False)
theorem op_eqO (hns : PySem.W.notFirst X.K C (.type "str") = true) (hnt : PySem.W.notFirst X.K C (.type "tuple") = true) (hm : Meth X.K C "__eq__" f) (F : FnOk X.prog X.w X.K X.mg X.base (L2.CX X.prog X.w) k f fd ps sp) (hr : Room k X.A) (hb : Binds X.K fd ps []) :
    OpR X (compareOp .Eq) (rEqO X.K C sp id) := by
  intro pins s σ H x y v u Q I rx ry h
  obtain ⟨p, dx, fs, rfl, h1, hy, hsp⟩ := h
  obtain rfl : v = Value.ref p := rx
  have fin : EP X pins σ (fun v H' => ∃ b, v = .bl b ∧ Q (.bl b) H') = EP X pins σ (fun v H' => ∃ b, v = .bl b ∧ Q (.bl (id b)) H') := rfl
  refine PySem.W.cmp_ofEq (wpAny_mono (Q := EP X pins σ (fun v H' => ∃ b, v = .bl b ∧ Q (.bl (id b)) H')) ?_ (fun w s' hq => ?_) fun _ _ z => z)
  · rcases hy with ⟨z, rfl⟩ | ⟨b, ys, rfl, hq⟩ | ⟨b, dy, gs, rfl, h2⟩
    · obtain ⟨t, rfl⟩ := (show ∃ t, u = Value.str z t from ry)
      exact own_cmp (op := .Eq) (y := .str z) (u := .str z t) (E := fun _ _ _ _ => False) hm F hr hb pass_false I h1 ⟨t, rfl⟩ (.of_pure rfl) hns hsp
    · obtain rfl : u = Value.ref b := ry
      obtain ⟨its, r, ⟨o, ho, hc, n, hd⟩, hz⟩ := I.tuple hq
      exact own_cmp (op := .Eq) (y := .ref b) (u := .ref b) (E := fun _ _ _ _ => False) hm F hr hb pass_false I h1 rfl (fun A Q' E' s' kp q => wpAny_typeOf_ref (kp _ _ ho) (by rw [hc]; exact q)) hnt hsp
    · obtain rfl : u = Value.ref b := ry
      obtain ⟨oy, od', J'⟩ := cls_inst I h2
      exact own_cmp (op := .Eq) (y := .ref b) (u := .ref b) (E := fun _ _ _ _ => False) hm F hr hb pass_false I h1 rfl J'.type own_self hsp
  · obtain ⟨v', H', I', rv, b, rfl, q⟩ := hq
    obtain rfl : w = Value.bool b := rv
    exact ⟨.bl b, H', I', rfl, q⟩
end
/-! ### != by an own == -/
section
variable {X : Cx} {k : Nat} {f C : Addr} {fd : FuncData} {ps : List Str} {sp : Sp}
def rNeO (C : Addr) (sp : Sp) : R2 := fun x y H Q => ∃ a b dx dy fs gs, x = .ref a ∧ y = .ref b ∧ H a = some (.ins C dx fs) ∧ H b = some (.ins C dy gs) ∧ sp [.ref a, .ref b] H (fun v H' => ∃ b, v = .bl b ∧ Q (.bl (!b)) H') (fun _ _ _ => False)
theorem op_neO (hn : PySem.W.findIn X.K (.ref C) "__ne__" = some (some (.builtin "object.__ne__"))) (ho : PySem.W.subIn X.K (.ref C) (.type "object") = some true) (hm : Meth X.K C "__eq__" f) (F : FnOk X.prog X.w X.K X.mg X.base (L2.CX X.prog X.w) k f fd ps sp) (hr : Room (k + 1) X.A) (hb : Binds X.K fd ps []) :
    OpR X (compareOp .NotEq) (rNeO C sp) := by
  intro pins s σ H x y v u Q I rx ry h
  obtain ⟨p, q, dx, dy, fs, gs, rfl, rfl, h1, h2, hsp⟩ := h
  obtain rfl : v = Value.ref p := rx
  obtain rfl : u = Value.ref q := ry
  obtain ⟨ox, od, J⟩ := cls_inst I h1
  obtain ⟨oy, od', J'⟩ := cls_inst I h2
  have XK := I.kIn
  have body : wpAny (model X.prog X.w) X.A.in1 (Builtin.«object.__ne__» ⟨[.ref p, .ref q], []⟩) (fun fin s' => match fin with | .done (.ret v) => EP X pins σ Q v s' ∧ v ≠ .notImplemented | _ => False) X.xe s := by
    unfold Builtin.«object.__ne__»
    refine wpAny_bind (m := slotArgs "__ne__" 1 _) (wpAny_pure ?_)
    refine wpAny_bind (wpAny_cRoomFor hr.in1.units0 ?_)
    refine wpAny_bind (m := callSpecialIfBound? (.ref p) (Str.ofString "__eq__") [.ref q]) (PySem.W.ifBound_K XK J hm.at_ hm.fn (wpAny_mono (run_fnS1 (us := [.ref p, .ref q]) (vs := [.ref p, .ref q]) (E := fun _ _ _ _ => False) F hr hb pass_false I (.cons rfl (.cons rfl .nil)) hsp) (fun r s' hq => ?_) fun _ _ z => z))
    obtain ⟨v', H', I', rv, b, rfl, q2⟩ := hq
    obtain rfl : r = Value.bool b := rv
    refine wpAny_bind (m := truthy (.bool b)) (wpAny_truthy_bool ?_)
    exact wpAny_pure ⟨⟨.bl (!b), H', I', rfl, q2⟩, by intro z; cases z⟩
  have one : wpAny (model X.prog X.w) X.A (tryCompare (.ref p) "__ne__" (.ref q)) (fun r s' => ∃ v, r = some v ∧ EP X pins σ Q v s') X.xe s := by
    unfold tryCompare
    refine wpAny_bind ?_
    simp only [callSpecialIfBound?, bindSpecialIfBound?]
    refine wpAny_holding (wpAny_bind (wpAny_bind (wpAny_bind (J.type.here ((PySem.W.looks_findIn XK hn).here ?_)))))
    have hbd : bindSpecial (.builtin "object.__ne__") (.ref p) = pure (.builtin "object.__ne__", [.ref p]) := PySem.F.cmp_object.ne.bind _
    simp only [hbd]
    have fin : wpAny (model X.prog X.w) X.A (call (.builtin "object.__ne__") ([.ref p] ++ [.ref q]) >>= fun v => pure (some v)) (fun r s' => wpAny (model X.prog X.w) X.A (match r with | some .notImplemented | none => pure none | some v => pure (some v)) (fun r s' => ∃ v, r = some v ∧ EP X pins σ Q v s') X.xe s') X.xe s := by
      refine wpAny_bind (wpAny_call (codeAny_call_builtin PySem.F.cmp_object.ne.plain PySem.F.cmpEntry_ne ?_))
      have chk : ∀ {Q' : Unit → Shared → Prop} {E' : Value → Shared → Prop}, Q' () s → wpAny (model X.prog X.w) X.A.in1 (checkBuiltinCall "object.__ne__" ⟨[.ref p, .ref q], []⟩) Q' E' s := fun {Q' E'} hq => by
        simp only [checkBuiltinCall, PySem.F.cmpKind_ne, PySem.F.cmpSplit_ne]
        refine wpAny_bind ?_
        unfold isInstance
        refine wpAny_bind (J.type.here ((PySem.W.looks_subIn XK ho).here ?_))
        rw [if_neg (show ¬ (!true) = true by simp)]
        have hargs : argsOk "object.__ne__" ⟨[.ref p, .ref q], []⟩ := PySem.F.cmpArgs_ne _ _
        cases hsig : Manifest.signature? "object.__ne__" with
        | none => exact wpAny_pure hq
        | some sig =>
          simp only [argsOk, hsig] at hargs
          show wpAny _ _ (Bind.checkArgs "object.__ne__" sig ⟨[.ref p, .ref q], []⟩) Q' E' s
          rw [show Bind.checkArgs "object.__ne__" sig ⟨[.ref p, .ref q], []⟩ = pure () from hargs]
          exact wpAny_pure hq
      refine chk (wpAny_mono body (fun fin s' hq => ?_) fun _ _ z => z)
      cases fin with
      | again c => exact hq.elim
      | done f =>
        cases f with
        | ret v =>
          obtain ⟨h5, h6⟩ := hq
          refine wpAny_pure ?_
          cases v <;> first | exact absurd rfl h6 | exact wpAny_pure ⟨_, rfl, h5⟩
        | _ => exact hq.elim
    refine wpAny_bind (wpAny_askSetting (wpAny_ite ?_))
    split
    · exact wpAny_bind (wpAny_pure (wpAny_pure fin))
    · exact wpAny_tryCatch (wpAny_bind (wpAny_pure (wpAny_pure fin)))
  refine PySem.W.cmp_ofNotEq ?_
  unfold richCompare
  simp only [oneThing_ref]
  refine wpAny_holding (wpAny_bind (wpAny_cRoomFor hr.units0 ?_))
  refine wpAny_bind (J.type.here (wpAny_bind (J'.type.here ?_)))
  rw [show (Value.ref C != Value.ref C) = false by simp]
  simp only [Bool.false_eq_true, if_false]
  refine wpAny_bind (wpAny_pure ?_)
  simp only [Bool.false_eq_true, if_false]
  refine wpAny_bind (wpAny_mono one (fun r s' z => ?_) fun _ _ e => e)
  obtain ⟨v, rfl, hq⟩ := z
  exact wpAny_pure hq
end
/-! ### x[i], len(x), bool(x), truth of x -/
section
variable {X : Cx} {k : Nat} {f C : Addr} {fd : FuncData} {ps : List Str} {sp : Sp} {E : L2.St → XK} {pins : List (Addr × Obj)} {σ : L2.St} {H : Hp} {s : Shared} {Q : VK} {us : List Value} {vs : List V} {A' : Around}
theorem run_at (F : FnOk X.prog X.w X.K X.mg X.base (L2.CX X.prog X.w) k f fd ps sp) (hr : Room k A') (e0 : Env0 X.prog X.w X.K X.mg X.base A' X.stack s H) (hb : Binds X.K fd ps []) (hx : PassesAt (L2.CX X.prog X.w) X σ (E σ))
    (I : Inv X pins σ H s) (r : Vals vs us) (h : sp vs H Q (E σ)) : wpAny (model X.prog X.w) A' (call (.ref f) us) (EP X pins σ Q) X.xe s := by
  have hl : us.length = ps.length := by rw [← r.length]; exact F.len _ _ _ _ h
  have b := hb s us I.kIn (by rw [List.append_nil]; exact hl)
  rw [List.append_nil] at b
  refine wpAny_call (codeAny_mono (F.run A' X.stack s H ⟨us, []⟩ us vs Q (E σ) hr e0 b r h) fun r s' hq => ?_)
  cases r with
  | error e => exact hx pins H s e s' I hq
  | ok fl =>
    cases fl with
    | ret u => exact I.after hq
    | next => exact hq.elim
    | brk => exact hq.elim
    | cont => exact hq.elim
end
section
variable {X : Cx} {k : Nat} {f C : Addr} {fd : FuncData} {ps : List Str} {sp : Sp} {E : L2.St → XK} {a b : Expr} {ta tb : TE} {pos : Pos}
theorem pe_ixO (hm : Meth X.K C "__getitem__" f) (hfn : PySem.W.fnIn X.K f = true) (F : FnOk X.prog X.w X.K X.mg X.base (L2.CX X.prog X.w) k f fd ps sp) (hr : Room (k + 1) X.A) (hb : Binds X.K fd ps []) (hx : ∀ σ, PassesAt (L2.CX X.prog X.w) X σ (E σ))
    (ha : PE X a ta) (hb2 : PE X b tb) (hsl : ∀ v u, subscripted b true v u = runValue (.builtin "lifetime.subscript" ⟨[v, u], []⟩) := by intro _ _; with_unfolding_all rfl) : PE X (.Subscript a b pos) (tOpS (rOwn1 C sp E) ta tb) := by
  refine ⟨fun pins s σ H Q I h => ?_⟩
  refine Subscript_ (binT ha hb2 I h fun v u s2 x y H2 I2 rx ry q => ?_)
  obtain ⟨p, dx, fs, rfl, h1, hsp⟩ := q
  obtain rfl : v = Value.ref p := rx
  obtain ⟨ox, od, J⟩ := cls_inst I2 h1
  obtain ⟨m, hF⟩ := I2.fr
  exact PySem.W.sub_K hF I2.ok.mod.kin J hm.at_ hfn hm.fn (run_fnS1 (us := [.ref p, u]) (vs := [.ref p, y]) F hr hb (hx σ) I2 (.cons rfl (.cons ry .nil)) hsp) (hsl _ _)
def rLenO (C : Addr) (sp : Sp) : List V → Hp → VK → Prop := fun xs H Q => ∃ a dx fs, xs = [.ref a] ∧ H a = some (.ins C dx fs) ∧ sp [.ref a] H (fun v H' => ∃ n : Int, v = .int n ∧ 0 ≤ n ∧ n < 2 ^ 60 ∧ Q (.int n) H') (fun _ _ _ => False)
theorem call_lenO (hm : Meth X.K C "__len__" f) (F : FnOk X.prog X.w X.K X.mg X.base (L2.CX X.prog X.w) k f fd ps sp) (hr : Room (k + 1) X.A) (hb : Binds X.K fd ps []) : CallR X (.builtin "len") (rLenO C sp) := by
  intro pins s σ H xs us Q I r h
  obtain ⟨p, dx, fs, rfl, h1, hsp⟩ := h
  obtain ⟨u, rfl, ru⟩ := vals1 r
  obtain rfl : u = Value.ref p := ru
  obtain ⟨ox, od, J⟩ := cls_inst I h1
  obtain ⟨m, hF⟩ := I.fr
  refine PySem.W.len_K hF I.ok.mod.kin J hm.at_ hm.fn (wpAny_mono (run_fnS1 (us := [.ref p]) (vs := [.ref p]) (E := fun _ _ _ _ => False) F hr hb pass_false I (.cons rfl .nil) hsp) (fun w s' hq => ?_) fun _ _ z => z)
  obtain ⟨v', H', I', rv, n, rfl, n0, n1, q⟩ := hq
  obtain ⟨t, rfl⟩ := (show ∃ t, w = Value.int n t from rv)
  exact ⟨⟨n0, by omega⟩, .int n, H', I'.tok _, ⟨s'.toks, rfl⟩, q⟩
def rBoolO (C : Addr) (sp : Sp) : List V → Hp → VK → Prop := fun xs H Q => ∃ a dx fs, xs = [.ref a] ∧ H a = some (.ins C dx fs) ∧ sp [.ref a] H (fun v H' => ∃ b : Bool, v = .bl b ∧ Q (.bl b) H') (fun _ _ _ => False)
theorem call_boolO (hm : Meth X.K C "__bool__" f) (F : FnOk X.prog X.w X.K X.mg X.base (L2.CX X.prog X.w) k f fd ps sp) (hr : Room (k + 2) X.A) (hb : Binds X.K fd ps []) : CallR X (.type "bool") (rBoolO C sp) := by
  intro pins s σ H xs us Q I r h
  obtain ⟨p, dx, fs, rfl, h1, hsp⟩ := h
  obtain ⟨u, rfl, ru⟩ := vals1 r
  obtain rfl : u = Value.ref p := ru
  obtain ⟨ox, od, J⟩ := cls_inst I h1
  obtain ⟨m, hF⟩ := I.fr
  have tru : wpAny (model X.prog X.w) X.A.in1.in1 (truthy (.ref p)) (fun b s' => EP X pins σ Q (.bool b) s') X.xe s := PySem.W.truthy_K hF I.ok.mod.kin J hm.at_ hm.fn (wpAny_mono (run_at (us := [.ref p]) (vs := [.ref p]) (E := fun _ _ _ _ => False) F hr.in1.in1 I.env0.in1.in1 hb pass_false I (.cons rfl .nil) hsp) (fun w s' hq => by
    obtain ⟨v', H', I', rv, b, rfl, q⟩ := hq
    obtain rfl : w = Value.bool b := rv
    exact ⟨.bl b, H', I', rfl, q⟩) fun _ _ z => z)
  refine callType_newIn (S := fun A R s' => wpAny (model X.prog X.w) A.in1 (truthy (.ref p)) (fun b s2 => R (.ok (.ret (.bool b))) s2) (fun e s2 => R (.error e) s2) s') PySem.F.called_bool PySem.F.newNe_bool (PySem.F.typeCall_bool_1 _) (PySem.F.newCall_bool_1 _) (fun obj => PySem.F.args_object_init_2 obj _) PySem.F.entry_bool_new (MeetsIn.of_wp fun A R s' hs => ?_) ?_
  · have f1 := PySem.F.conv_sub_bool
    unfold Builtin.«bool.__new__»
    repeat (first | (with_reducible refine wpAny_bind (m := truthy (.ref p)) (wpAny_mono hs (fun b s2 z => ?_) fun _ _ z => z)) | wp_step)
    all_goals first | exact ⟨_, rfl, z⟩ | exact wpAny_pure ⟨_, rfl, z⟩
  · exact wpAny_mono tru (fun b s2 z => ⟨rfl, z⟩) fun _ _ z => z
end
end Fl
set_option Elab.async false
set_option linter.all false
set_option maxRecDepth 100000
/-! operators of own classes, on data. -/
namespace Fl
open PySem PySem.Spec PyProof.Rows L2
/-- is x of the class c -/
def insB (c : Nat) (s : Sto) : D → Bool
  | .ob i => match s[i]? with
    | some (.ins c' _) => decide (c' = c)
    | _ => false
  | _ => false
theorem insB_at {K : PySem.W.Frag} {M : Hp} {ι : List Addr} {s : Sto} {H : Hp} {c : Nat} {x : D} {v : V} (h : insB c s x = true) (C : Conc K M ι s H) (r : Rep K M ι x v) : ∃ i a dx fs, x = .ob i ∧ v = .ref a ∧ H a = some (.ins (He.ga K (cname c)) dx ((fnames c).zip fs)) := by
  cases x with
  | ob i =>
    unfold insB at h
    simp only at h
    split at h
    · rename_i c' ds e
      obtain rfl := of_decide_eq_true h
      obtain ⟨a, rfl, hk⟩ := r
      obtain ⟨hM, dx, vs, h1, r2⟩ := C.obs i a _ hk e
      exact ⟨i, a, dx, vs, rfl, rfl, h1⟩
    · cases h
  | _ => cases h
def own2 (c : Nat) (F : FF) : Op2 := fun s x y => if insB c s x = true ∧ insB c s y = true then F [x, y] s else .stuck
def own1 (c : Nat) (F : FF) : Op2 := fun s x y => if insB c s x = true then F [x, y] s else .stuck
def boolR (g : Bool → Bool) : O D → O D
  | .val (.bl b) s => .val (.bl (g b)) s
  | _ => .stuck
theorem Post.boolR {K : PySem.W.Frag} {Wx Wx' : Nat → Hp → Prop} {M : Hp} {ι : List Addr} {H : Hp} {g : Bool → Bool} {o : O D} {Q : VK} (h : Post K (Rep K) Wx M ι H (boolR g o) Q) : Post K (Rep K) Wx' M ι H o (fun v H' => ∃ b, v = .bl b ∧ Q (.bl (g b)) H') := by
  cases o with
  | stuck => exact h
  | exc c s => exact h.elim
  | val d s =>
    cases d with
    | bl b => exact fun M' ι' H' v t C r => ⟨b, r.bl, h M' ι' H' _ t C rf_bl⟩
    | _ => exact h.elim
def otherB (c : Nat) (s : Sto) (y : D) : Bool := match y with
  | .str _ => true
  | .tup _ => true
  | y => insB c s y
def eqO (c : Nat) (F : FF) : Op2 := fun s x y => if insB c s x = true ∧ otherB c s y = true then boolR id (F [x, y] s) else .stuck
def neO (c : Nat) (F : FF) : Op2 := fun s x y => if insB c s x = true ∧ insB c s y = true then boolR not (F [x, y] s) else .stuck
def lenO (c : Nat) (F : FF) (s : Sto) : List D → O D
  | [x] => if insB c s x = true then (match F [x] s with
    | .val (.int n) s' => if 0 ≤ n ∧ n < 2 ^ 60 then .val (.int n) s' else .stuck
    | _ => .stuck) else .stuck
  | _ => .stuck
def boolO (c : Nat) (F : FF) (s : Sto) : List D → O D
  | [x] => if insB c s x = true then boolR id (F [x] s) else .stuck
  | _ => .stuck
def truO (c : Nat) (F : FF) (fa : EF) : BF := fun δ s => (fa δ s).bind fun x s1 => if insB c s1 x = true then (match F [x] s1 with
  | .val (.bl b) s2 => .val b s2
  | _ => .stuck) else .stuck
section
variable {P : Program} {w : World} {K : PySem.W.Frag} {mg : Str → Option Value} {base : Heap} {cl : Nat → Value}
/-- __getitem__ of the class c -/
structure JGi (P : Program) (w : World) (K : PySem.W.Frag) (mg : Str → Option Value) (base : Heap) (cl : Nat → Value) (k c : Nat) (F : FF) : Prop where
  ex : ∃ f : Addr, Meth K (He.ga K (cname c)) "__getitem__" f ∧ PySem.W.fnIn K f = true ∧ JAt P w K mg base cl k f 2 F
theorem fnIn_of {x qual : Str} {st : Stmt} {f : Addr} {fd : FuncData} (F : FnP K x qual st f fd) : PySem.W.fnIn K f = true := by
  obtain ⟨oc, od, dV, kV, doc, pm, an, cdv, ct, osl, rfl, lk, _⟩ := F.ex
  unfold PySem.W.fnIn
  rw [lk]
end
section
variable {X : Cx} {cl : Nat → Value} {W : WX} {a b e : Expr} {es : List Expr} {fa fb : EF} {fr : AF} {pos : Pos} {c k j : Nat} {F : FF} {x : Str} {p : Pos}
theorem rd_own2 {σ : L2.St} {H : Hp} {Q : VK} (h : rdE X.K cl W (bin (own2 c F) fa fb) σ H Q) : tOpS (rOwn2 (He.ga X.K (cname c)) (SpF X.K cl 2 F) (fun σ => WE W σ)) (rdE X.K cl W fa) (rdE X.K cl W fb) σ H Q := by
  obtain ⟨M, ι, δ, s, C, S, Pq⟩ := h
  refine ⟨M, ι, δ, s, C, S, Post.mono (Post.bind (Rep X.K) Pq) fun u H1 m1 => ?_⟩
  obtain ⟨M1, ι1, xd, s1, t1, C1, r1, P1⟩ := m1.ex
  refine ⟨M1, ι1, δ, s1, C1, S.step t1, Post.mono (Post.bind (Rep X.K) P1) fun v H2 m2 => ?_⟩
  obtain ⟨M2, ι2, yd, s2, t2, C2, r2, P2⟩ := m2.ex
  unfold own2 at P2
  split at P2
  · rename_i hc
    have r1' := r1.step t2
    obtain ⟨i, q, dx, fs, rfl, rfl, h1⟩ := insB_at hc.1 C2 r1'
    obtain ⟨i', q', dy, gs, rfl, rfl, h2⟩ := insB_at hc.2 C2 r2
    exact ⟨q, q', dx, dy, _, _, rfl, rfl, h1, h2, M2, ι2, s2, _, C2, .cons r1' (.cons r2 .nil), rfl, P2⟩
  · exact P2.elim
theorem je_binO {op : Operator} (O : ClsOps X.K c) (J : JMt X.prog X.w X.K X.mg X.base cl k c (PySem.dunder op.info.2) 2 F) (hr : Room j X.A) (hk : k ≤ j) (tk : Takes X W) (ha : JE X cl W a fa) (hb : JE X cl W b fb) : JE X cl W (.BinOp a op b pos) (bin (own2 c F) fa fb) := by
  obtain ⟨f, hM, J⟩ := J.ex
  obtain ⟨fd, ps, kp, bb, G⟩ := J.ex
  exact (pe_binO O.self hM G (hr.mono hk) bb (fun σ => passAt tk σ) ha hb).imp fun σ H Q h => rd_own2 h
theorem je_leO (J : JMt X.prog X.w X.K X.mg X.base cl k c "__le__" 2 F) (hr : Room j X.A) (hk : k ≤ j) (tk : Takes X W) (ha : JE X cl W a fa) (hb : JE X cl W b fb) : JE X cl W (.Compare a [.LtE] [b] pos) (bin (own2 c F) fa fb) := by
  obtain ⟨f, hM, J⟩ := J.ex
  obtain ⟨fd, ps, kp, bb, G⟩ := J.ex
  exact (pe_leO hM G (hr.mono hk) bb (fun σ => passAt tk σ) ha hb).imp fun σ H Q h => rd_own2 h
theorem je_getO (J : JGi X.prog X.w X.K X.mg X.base cl k c F) (hr : Room j X.A) (hk : k + 1 ≤ j) (tk : Takes X W) (ha : JE X cl W a fa) (hb : JE X cl W b fb) (hsl : ∀ v u, subscripted b true v u = runValue (.builtin "lifetime.subscript" ⟨[v, u], []⟩) := by intro _ _; with_unfolding_all rfl) :
    JE X cl W (.Subscript a b pos) (bin (own1 c F) fa fb) := by
  obtain ⟨f, hM, hf, J⟩ := J.ex
  obtain ⟨fd, ps, kp, bb, G⟩ := J.ex
  refine (pe_ixO hM hf G (hr.mono hk) bb (fun σ => passAt tk σ) ha hb hsl).imp fun σ H Q h => ?_
  obtain ⟨M, ι, δ, s, C, S, Pq⟩ := h
  refine ⟨M, ι, δ, s, C, S, Post.mono (Post.bind (Rep X.K) Pq) fun u H1 m1 => ?_⟩
  obtain ⟨M1, ι1, xd, s1, t1, C1, r1, P1⟩ := m1.ex
  refine ⟨M1, ι1, δ, s1, C1, S.step t1, Post.mono (Post.bind (Rep X.K) P1) fun v H2 m2 => ?_⟩
  obtain ⟨M2, ι2, yd, s2, t2, C2, r2, P2⟩ := m2.ex
  unfold own1 at P2
  split at P2
  · rename_i hc
    have r1' := r1.step t2
    obtain ⟨i, q, dx, fs, rfl, rfl, h1⟩ := insB_at hc C2 r1'
    exact ⟨q, dx, _, rfl, h1, M2, ι2, s2, _, C2, .cons r1' (.cons r2 .nil), rfl, P2⟩
  · exact P2.elim
theorem ok_eqO : Ok2 X.K (rEqO X.K (He.ga X.K (cname c)) (SpF X.K cl 2 F) id) (eqO c F) := fun Wx M ι s H x y u v Q C rx ry P => by
  unfold eqO at P
  split at P
  · rename_i hc
    obtain ⟨i, q, dx, fs, rfl, rfl, h1⟩ := insB_at hc.1 C rx
    refine ⟨q, dx, _, rfl, h1, ?_, M, ι, s, [.ob i, y], C, .cons rx (.cons ry .nil), rfl, Post.boolR P⟩
    have hy := hc.2
    cases y with
    | str z => exact .inl ⟨_, ry.str.1⟩
    | tup ds =>
      obtain ⟨p, us, rfl, h2, r2⟩ := ry.tup
      exact .inr (.inl ⟨p, us, rfl, Ex.t C.sub h2.sq⟩)
    | ob i' =>
      obtain ⟨i2, q2, dy, gs, _, rfl, h2⟩ := insB_at (show insB c s (.ob i') = true from hy) C ry
      exact .inr (.inr ⟨q2, dy, _, rfl, h2⟩)
    | _ => cases hy
  · exact P.elim
theorem ok_neO : Ok2 X.K (rNeO (He.ga X.K (cname c)) (SpF X.K cl 2 F)) (neO c F) := fun Wx M ι s H x y u v Q C rx ry P => by
  unfold neO at P
  split at P
  · rename_i hc
    obtain ⟨i, q, dx, fs, rfl, rfl, h1⟩ := insB_at hc.1 C rx
    obtain ⟨i', q', dy, gs, rfl, rfl, h2⟩ := insB_at hc.2 C ry
    exact ⟨q, q', dx, dy, _, _, rfl, rfl, h1, h2, M, ι, s, [.ob i, .ob i'], C, .cons rx (.cons ry .nil), rfl, Post.boolR P⟩
  · exact P.elim
theorem je_eqO (O : ClsOps X.K c) (J : JMt X.prog X.w X.K X.mg X.base cl k c "__eq__" 2 F) (hr : Room j X.A) (hk : k ≤ j) (ha : JE X cl W a fa) (hb : JE X cl W b fb) : JE X cl W (.Compare a [.Eq] [b] pos) (bin (eqO c F) fa fb) := by
  obtain ⟨f, hM, J⟩ := J.ex
  obtain ⟨fd, ps, kp, bb, G⟩ := J.ex
  exact je_cmp (op_eqO O.nstr O.ntup hM G (hr.mono hk) bb) ok_eqO ha hb (nomark _)
theorem jt_eqO (O : ClsOps X.K c) (J : JMt X.prog X.w X.K X.mg X.base cl k c "__eq__" 2 F) (hr : Room j X.A) (hk : k ≤ j) (ha : JE X cl W a fa) (hb : JE X cl W b fb) : JT X cl W (.Compare a [.Eq] [b] pos) (tst (bin (eqO c F) fa fb)) := by
  obtain ⟨f, hM, J⟩ := J.ex
  obtain ⟨fd, ps, kp, bb, G⟩ := J.ex
  exact jt_cmp (op_eqO O.nstr O.ntup hM G (hr.mono hk) bb) ok_eqO ha hb (nomark _)
theorem je_neO (O : ClsOps X.K c) (J : JMt X.prog X.w X.K X.mg X.base cl k c "__eq__" 2 F) (hr : Room j X.A) (hk : k + 1 ≤ j) (ha : JE X cl W a fa) (hb : JE X cl W b fb) : JE X cl W (.Compare a [.NotEq] [b] pos) (bin (neO c F) fa fb) := by
  obtain ⟨f, hM, J⟩ := J.ex
  obtain ⟨fd, ps, kp, bb, G⟩ := J.ex
  exact je_cmp (op_neO O.ne_ O.ob hM G (hr.mono hk) bb) ok_neO ha hb (nomark _)
theorem jt_neO (O : ClsOps X.K c) (J : JMt X.prog X.w X.K X.mg X.base cl k c "__eq__" 2 F) (hr : Room j X.A) (hk : k + 1 ≤ j) (ha : JE X cl W a fa) (hb : JE X cl W b fb) : JT X cl W (.Compare a [.NotEq] [b] pos) (tst (bin (neO c F) fa fb)) := by
  obtain ⟨f, hM, J⟩ := J.ex
  obtain ⟨fd, ps, kp, bb, G⟩ := J.ex
  exact jt_cmp (op_neO O.ne_ O.ob hM G (hr.mono hk) bb) ok_neO ha hb (nomark _)
theorem ok_lenO : OkN X.K (rLenO (He.ga X.K (cname c)) (SpF X.K cl 1 F)) (lenO c F) := fun Wx M ι s H xs us Q C rs P => by
  unfold lenO at P
  split at P
  · rename_i xd
    split at P
    · rename_i hc
      obtain ⟨u, rfl, r1⟩ := rs.one
      obtain ⟨i, q, dx, fs, rfl, rfl, h1⟩ := insB_at hc C r1
      refine ⟨q, dx, _, rfl, h1, M, ι, s, [.ob i], C, .cons r1 .nil, rfl, ?_⟩
      split at P
      · rename_i n s' hF
        split at P
        · rename_i hn
          rw [hF]
          exact fun M' ι' H' v t C' r' => ⟨n, r'.int, hn.1, hn.2, P M' ι' H' _ t C' rf_int⟩
        · exact P.elim
      · exact P.elim
    · exact P.elim
  · exact P.elim
theorem je_lenO (J : JMt X.prog X.w X.K X.mg X.base cl k c "__len__" 1 F) (hr : Room j X.A) (hk : k + 1 ≤ j) (hg : Gl X "len") (hm : X.mg "len" = none) (hb : bootBuiltins "len" = some (.builtin "len")) (ha : JA X cl W [a] fr)
    (he : starEach [a] X.env = (false, eval a X.env) :: starEach [] X.env := by rfl) (hpl : (backTo pos (starEach [] X.env)).any (·.1) = false := by rfl) : JE X cl W (.Call (.Name "len" p) [a] [] pos) (fnB (lenO c F) fr) := by
  obtain ⟨f, hM, J⟩ := J.ex
  obtain ⟨fd, ps, kp, bb, G⟩ := J.ex
  exact je_callB (call_lenO hM G (hr.mono hk) bb) ok_lenO hg hm hb ha (by decide) (by decide) he hpl
theorem ok_boolO : OkN X.K (rBoolO (He.ga X.K (cname c)) (SpF X.K cl 1 F)) (boolO c F) := fun Wx M ι s H xs us Q C rs P => by
  unfold boolO at P
  split at P
  · rename_i xd
    split at P
    · rename_i hc
      obtain ⟨u, rfl, r1⟩ := rs.one
      obtain ⟨i, q, dx, fs, rfl, rfl, h1⟩ := insB_at hc C r1
      exact ⟨q, dx, _, rfl, h1, M, ι, s, [.ob i], C, .cons r1 .nil, rfl, Post.boolR P⟩
    · exact P.elim
  · exact P.elim
theorem je_boolO (J : JMt X.prog X.w X.K X.mg X.base cl k c "__bool__" 1 F) (hr : Room j X.A) (hk : k + 2 ≤ j) (hg : Gl X "bool") (hm : X.mg "bool" = none) (hb : bootBuiltins "bool" = some (.type "bool")) (ha : JA X cl W [a] fr)
    (he : starEach [a] X.env = (false, eval a X.env) :: starEach [] X.env := by rfl) (hpl : (backTo pos (starEach [] X.env)).any (·.1) = false := by rfl) : JE X cl W (.Call (.Name "bool" p) [a] [] pos) (fnB (boolO c F) fr) := by
  obtain ⟨f, hM, J⟩ := J.ex
  obtain ⟨fd, ps, kp, bb, G⟩ := J.ex
  exact je_callTy (call_boolO hM G (hr.mono hk) bb) ok_boolO hg hm hb ha (by decide) (by decide) he hpl
/-- bool(a bool) -/
def boolG (s : Sto) : List D → O D
  | [.bl b] => .val (.bl b) s
  | _ => .stuck
def rBool1 : List V → Hp → VK → Prop := fun xs H Q => (∃ i, xs = [.int i] ∧ Q (.bl (i != 0)) H) ∨ ∃ k, xs = [.bl k] ∧ Q (.bl k) H
theorem ok_bool : OkN X.K rBool1 boolG := fun Wx M ι s H xs us Q C rs P => by
  unfold boolG at P
  split at P
  · rename_i b
    obtain ⟨u, rfl, r1⟩ := rs.one
    exact .inr ⟨b, by rw [r1.bl], Post.now (C := Rep X.K) P C rf_bl⟩
  · exact P.elim
theorem call_boolB : CallR X (.type "bool") rBool1 := call_bool1
/-- a test: the truth of x -/
theorem jt_truO (J : JMt X.prog X.w X.K X.mg X.base cl k c "__bool__" 1 F) (hr : Room j X.A) (hk : k ≤ j) (ha : JE X cl W a fa) (he : ∀ whole, isTrue a X.env whole = (do let v ← whole; standAt a.pos; holding [v] (truthy v)) := by intro _; rfl) : JT X cl W a (truO c F fa) := by
  obtain ⟨f, hM, J⟩ := J.ex
  obtain ⟨fd, ps, kp, bb, G⟩ := J.ex
  refine ⟨fun pins s σ H Q I h => ?_⟩
  obtain ⟨M, ι, δ, s0, C, S, Pq⟩ := h
  refine isTrue_plain (thn (ha.run pins s σ H _ I ⟨M, ι, δ, s0, C, S, Post.bind (Rep X.K) Pq⟩) fun v s1 ⟨x, H1, I1, r1, m1⟩ => ?_) (he _)
  obtain ⟨M1, ι1, xd, s2, t1, C1, r2, P1⟩ := m1.ex
  split at P1
  · rename_i hc
    obtain ⟨i, q, dx, fs, rfl, rfl, h1⟩ := insB_at hc C1 r2
    obtain rfl : v = Value.ref q := r1
    obtain ⟨ox, od, J'⟩ := cls_inst I1 h1
    obtain ⟨m, hF⟩ := I1.fr
    have hsp : SpF X.K cl 1 F [.ref q] H1 (fun v H' => ∃ b, v = .bl b ∧ Q b H') (fun _ _ _ => False) := by
      refine ⟨M1, ι1, s2, [.ob i], C1, .cons r2 .nil, rfl, ?_⟩
      split at P1
      · rename_i b s3 hF
        rw [hF]
        exact fun M' ι' H' v t C' r' => ⟨b, r'.bl, P1 M' ι' H' b t C' rfl⟩
      · exact P1.elim
    exact PySem.W.truthy_K hF I1.ok.mod.kin J' hM.at_ hM.fn (wpAny_mono (run_fnS (us := [.ref q]) (vs := [.ref q]) (E := fun _ _ _ _ => False) G (hr.mono hk) bb pass_false I1 (.cons rfl .nil) hsp) (fun w s' hq => by
      obtain ⟨v', H', I', rv, b, rfl, q⟩ := hq
      obtain rfl : w = Value.bool b := rv
      exact ⟨H', I', q⟩) fun _ _ z => z)
  · exact P1.elim
end
end Fl
set_option Elab.async false
set_option linter.all false
set_option maxRecDepth 100000
/-! except (A, B, C); methods with *args. -/
namespace Fl
open PySem PySem.Spec PyProof.Rows L2
/-- try: f, except (..): g; f lets out exceptions among cs, all of them taken -/
def tryT (cs : List Nat) (f g : SF) : SF := fun δ s => match f δ s with
  | .exc c δ' s' => if c ∈ cs then noXS (g δ' s') else .stuck
  | o => o
theorem flyPush {B : Heap} {l : List Env} {a : Addr} {Z : Obj → Prop} {h h' : Heap} (kp : ∀ b o, h.get? b = some o → h'.get? b = some o) (F : HandSPX.FlyingZ B l a Z h) : HandSPX.FlyingZ B l a Z h' := by
  obtain ⟨z1, z2, z3, oe, us, T, oT, ts, q1, q2, q3, q4, q5, q6, q7, q8, q9⟩ := F
  exact ⟨fun b o e => kp b o (z1 b o e), z2, z3.of_keeps fun b o e _ => ⟨o, kp b o e, rfl⟩, oe, us, T, oT, ts, kp _ _ q1, q2, q3, q4, q5, q6, kp _ _ q7, q8, q9⟩
/-- the class named h, read -/
structure NmOk (X : Cx) (cs : List Nat) (h : Nat) (x : Str) : Prop where
  nm : ename h = x
  gl : Gl X x
  db : (x == ("__debug__" : Str)) = false
  tk : TakesOk X.K X.mg cs h
theorem NmOk.read {X : Cx} {cs : List Nat} {h : Nat} {x : Str} (N : NmOk X cs h x) {np : Pos} {pins : List (Addr × Obj)} {σ : L2.St} {H : Hp} {s : Shared} {Q : Value → Shared → Prop} {E : Value → Shared → Prop} (I : Inv X pins σ H s) (q : Q (clK X.K h) s) :
    wpAny (model X.prog X.w) X.A (eval (.Name x np) X.env) Q E s := by
  have g := N.tk.gl
  rw [N.nm] at g
  refine ld_glob I N.gl g ?_ N.db
  rw [← N.nm]; exact q
theorem any3 {K : PySem.W.Frag} {mg : Str → Option Value} {cs : List Nat} {h1 h2 h3 c : Nat} (T1 : TakesOk K mg cs h1) (T2 : TakesOk K mg cs h2) (T3 : TakesOk K mg cs h3) (hc : c ∈ cs) (e : (takesC h1 c || takesC h2 c || takesC h3 c) = true) :
    PySem.W.exmAny K (clK K c) [clK K h1, clK K h2, clK K h3] = some true := by
  unfold PySem.W.exmAny PySem.W.exmAny PySem.W.exmAny PySem.W.exmAny
  rw [T1.ex c hc, T2.ex c hc, T3.ex c hc]
  simp only [Bool.or_false, Option.some.injEq]
  rw [← Bool.or_assoc]; exact e
section
variable {X : Cx} {W : WX}
/-- what the clause wishes -/
def wT (K : PySem.W.Frag) (cs : List Nat) (g : SF) (D : Ends) : WX := fun cls d σ H => ∃ c ∈ cs, cls = clK K c ∧ rdS K (clK K) (fun _ _ _ _ => False) g D σ H
theorem js_tryT {cs : List Nat} {body : List Stmt} {b₀ : Stmt} {suite : List Stmt} {x1 x2 x3 : Str} {h1 h2 h3 : Nat} {p1 p2 p3 tp pos' pos : Pos} {kk : Nat} {f g : SF} (hs : X.stack = X.env :: X.outer := by rfl) (hf : X.env.frame = some X.env.locals := by rfl) (tk : Takes X W)
    (hb : ∀ (W' : WX) (pn : List (Addr × Obj)) (xe : Value → Shared → Prop), Takes (X.tr pn xe) W' → PassesOwn (model X.prog X.w) X.A X.env xe → JSs (X.tr pn xe) (clK X.K) W' body f)
    (N1 : NmOk X cs h1 x1) (N2 : NmOk X cs h2 x2) (N3 : NmOk X cs h3 x3) (hall : (cs.all fun c => takesC h1 c || takesC h2 c || takesC h3 c) = true)
    (hsu : ∀ (a : Addr) (oe : Obj) (pn : List (Addr × Obj)), JSs (X.suite a ((a, oe) :: pn)) (clK X.K) (fun _ _ _ _ => False) (b₀ :: suite) g) :
    JS X (clK X.K) W (.Try body [.ExceptHandler (some (.Tuple [.Name x1 p1, .Name x2 p2, .Name x3 p3] kk tp)) none (b₀ :: suite) pos'] [] [] pos) (tryT cs f g) := by
  constructor
  intro pins s σ H D I h
  have ok := I.ok
  have frs0 : X.A.frames = some (X.env :: X.outer) := by
    rw [ok.frames]; exact congrArg some hs
  have h' : rdS X.K (clK X.K) (wT X.K cs g D) f D σ H := by
    obtain ⟨M, ι, δ, st, C, S, P⟩ := h
    refine ⟨M, ι, δ, st, C, S, ?_⟩
    unfold tryT at P
    revert P
    cases f δ st with
    | exc c δ' s' =>
      intro P M' ι' H' σ' t C' S'
      by_cases hcs : c ∈ cs
      · have P2 := PostS.step P t
        simp only [if_pos hcs] at P2
        exact ⟨c, hcs, rfl, M', ι', δ', s', C', S', PostS.noXS P2⟩
      · simp only [if_neg hcs] at P; exact P.elim
    | _ => exact fun P => P
  refine wpAny_Try_except (wpAny_mono ((hb (wT X.K cs g D) (X.pn ++ pins) (fun e s₁ => wpAny (model X.prog X.w) X.A (noteFrame e X.env) (fun _ s₂ =>
    wpAny (model X.prog X.w) X.A (setFlight e none) (fun _ s₃ => wpAny (model X.prog X.w) X.A (handleBy e X.env [.ExceptHandler (some (.Tuple [.Name x1 p1, .Name x2 p2, .Name x3 p3] kk tp)) none (b₀ :: suite) pos'])
      (SP X pins D) X.xe s₃) X.xe s₂) X.xe s₁) (fun u s' xx => ?_) PassesOwn.looking).run [] s σ H D (I.toTry _) h') (fun r s1 hr => ?_) (fun _ _ z => z))
  · obtain ⟨a, B, sI, ps2, σ', H', cls, d, rfl, J', nb, up, sky, na, os, ag, c, hcs, rfl, hgo⟩ := xx
    have J := J'.ofTry ok
    rw [show (X.tr (X.pn ++ pins) _).stack = X.env :: X.outer from hs] at sky
    show wpAny (model X.prog X.w) X.A (noteFrame (.ref a) X.env) _ _ _
    refine Sky.land Zc.steady frs0 hf sky fun g1 fl1 up1 => ?_
    have J1 : Inv X pins σ' H' { s' with heap := g1 } := J.landed nb fl1.1 (up.trans up1) os ag
    obtain ⟨oe, us, he, hz, hd⟩ := fl1.there
    have off : a ∉ frs (X.env :: X.outer) := by
      intro hm
      obtain ⟨_, o', e', hn⟩ := fl1.2.2.1.mem hm
      rw [he] at e'
      obtain rfl := Option.some.inj e'
      exact hn _ hd
    have offL : a ≠ X.env.locals := fun z => off (List.mem_filterMap.mpr ⟨X.env, List.mem_cons_self, by rw [hf, z]⟩)
    have offF : a ∉ X.fs := fun hm => by
      obtain ⟨e, m1, m2⟩ := List.mem_filterMap.mp hm
      exact off (List.mem_filterMap.mpr ⟨e, List.mem_cons_of_mem _ m1, m2⟩)
    have S1 := J1.suite he hd na offL offF
    have rd1 : ∀ {hh : Nat} {x : Str} {np : Pos} {Q : Value → Shared → Prop} {E : Value → Shared → Prop}, NmOk X cs hh x → Q (clK X.K hh) { s' with heap := g1 } → wpAny (model X.prog X.w) (X.A.mark (some (.ref a))) (eval (.Name x np) X.env) Q E { s' with heap := g1 } :=
      fun {hh x np Q E} N q => NmOk.read (X := X.suite a ((a, oe) :: (X.pn ++ pins))) ⟨N.nm, N.gl, N.db, N.tk⟩ S1 q
    refine wpAny_handleBy_cons (codeAny_handlers_test ?_) (by intro q; cases q)
    refine wpAny_Tuple (wpAny_items_cons (rd1 N1 (wpAny_items_cons (rd1 N2 (wpAny_items_cons (rd1 N3 (wpAny_items_nil ⟨show 3 ≤ sizeLine by decide, ?_⟩)))))))
    have kp : ∀ b o, g1.get? b = some o → (g1.push { cls := .type "tuple", data := .seq [clK X.K h1, clK X.K h2, clK X.K h3].toArray }).get? b = some o := fun b o e => Heap.get?_push_of_some _ e
    have LT : PySem.W.Looks (model X.prog X.w) (g1.push { cls := .type "tuple", data := .seq [clK X.K h1, clK X.K h2, clK X.K h3].toArray }) (typeOf (.ref a)) (clK X.K c) :=
      fun A Q E s k q => wpAny_typeOf_ref (k _ _ (kp _ _ he)) (by rw [hz.1]; exact q)
    have LM := PySem.W.exm_tup3 (M := model X.prog X.w) (J1.kIn.keeps kp) LT (Heap.get?_push_size g1 rfl) (any3 N1.tk N2.tk N3.tk hcs (List.all_eq_true.mp hall c hcs))
    refine LM.here ?_
    refine codeAny_handlers_suite ?_
    have fl2 := flyPush kp fl1
    refine HandSPX.lands_againZ fl2 fun g3 fl3 up3 => ?_
    have J3 : Inv X pins σ' H' { s' with heap := g3 } := J.landed nb fl3.1 (((up.trans up1).trans (Heap.UpToSlots.of_keeps kp)).trans up3) os ag
    obtain ⟨oe3, us3, he3, hz3, hd3⟩ := fl3.there
    have S3 := J3.suite he3 hd3 na offL offF
    refine wpAny_mono ((hsu a oe3 (X.pn ++ pins)).run [] _ _ H' _ S3 hgo) (fun r s6 hr => ?_) (fun _ _ z => z.elim)
    cases r with
    | ret u =>
      obtain ⟨v6, σ6, H6, S6, r6, q6⟩ := hr
      exact ⟨_, _, _, S6.unsuite ok, r6, q6⟩
    | next => exact hr.elim fun σ6 q => q.elim fun H6 q => ⟨_, _, q.1.unsuite ok, q.2⟩
    | brk => exact hr.elim fun σ6 q => q.elim fun H6 q => ⟨_, _, q.1.unsuite ok, q.2⟩
    | cont => exact hr.elim fun σ6 q => q.elim fun H6 q => ⟨_, _, q.1.unsuite ok, q.2⟩
  · cases r with
    | ret u =>
      obtain ⟨v6, σ6, H6, S6, r6, q6⟩ := hr
      exact ⟨_, _, _, S6.ofTry ok, r6, q6⟩
    | next => exact hr.elim fun σ6 q => q.elim fun H6 q => wpAny_execs_nil ⟨_, _, q.1.ofTry ok, q.2⟩
    | brk => exact hr.elim fun σ6 q => q.elim fun H6 q => ⟨_, _, q.1.ofTry ok, q.2⟩
    | cont => exact hr.elim fun σ6 q => q.elim fun H6 q => ⟨_, _, q.1.ofTry ok, q.2⟩
end
theorem fnF_post {K : PySem.W.Frag} {cl : Nat → Value} {N : List Str} {n : Nat} {body : SF} {M : Hp} {ι : List Addr} {st : Sto} {H : Hp} {ds : List D} {E : XK} {Q : VK} (e : ds.length = n) (C : Conc K M ι st H) (Pq : Post K (Rep K) (fun c H' => E (cl c) none H') M ι H (fnF N n body ds st) Q) :
    PostS K cl (fun cls d _ H => E cls d H) { nx := fun _ H' => Q .non H', rt := Q } M ι H (body (startD N ds) st) := by
  unfold fnF at Pq
  rw [if_pos e] at Pq
  revert Pq
  cases body (startD N ds) st with
  | stuck => exact id
  | bk δ s' => exact fun z => z.elim
  | ct δ s' => exact fun z => z.elim
  | nx δ s' =>
    intro z M' ι' H' σ' t C' S'
    simp only [outF] at z
    split at z
    · rename_i ck
      obtain ⟨M2, C2, t2, _, _⟩ := C.back t C' ck
      exact z M2 _ H' .non t2 C2 rf_non
    · exact z.elim
  | exc c δ s' =>
    intro z M' ι' H' σ' t C' S'
    simp only [outF] at z
    split at z
    · rename_i ck
      obtain ⟨M2, C2, t2, _, _⟩ := C.back t C' ck
      exact z M2 _ H' t2 C2
    · exact z.elim
  | rt d s' =>
    intro z M' ι' H' v t C' r'
    simp only [outF] at z
    split at z
    · rename_i ck
      obtain ⟨M2, C2, t2, ex, hm⟩ := C.back t C' ck
      split at z
      · rename_i hl
        exact z M2 _ H' v t2 C2 ((r'.low hl).mono ex fun _ _ q => q)
      · split at z
        · rename_i d' hd
          exact z M2 _ H' v t2 C2 (Rep.of (dfz_rep C' ex hm 3 r' hd))
        · exact z.elim
    · exact z.elim
/-! ### a method with *args -/
/-- the things behind the first n are one tuple -/
noncomputable def fnS (N : List Str) (n : Nat) (body : SF) : FF := fun ds s => if n ≤ ds.length ∧ (flats (ds.drop n) = true ∧ (ds.drop n).length ≤ 16000000) then fnF N (n + 1) body (ds.take n ++ [.tup (ds.drop n)]) s else .stuck
/-- .. where nothing is raised -/
def SpS (K : PySem.W.Frag) (cl : Nat → Value) (n : Nat) (F : FF) : Sp := fun vs H Q E => ∃ M ι s ds, Conc K M ι s H ∧ Reps K M ι ds vs ∧ Post K (Rep K) (fun c H' => E (cl c) none H') M ι H (F ds s) Q
section
variable {P : Program} {w : World} {K : PySem.W.Frag} {mg : Str → Option Value} {base : Heap} {cl : Nat → Value}
structure JSt (P : Program) (w : World) (K : PySem.W.Frag) (mg : Str → Option Value) (base : Heap) (cl : Nat → Value) (k c : Nat) (m : Str) (n : Nat) (F : FF) : Prop where
  ex : ∃ f : Addr, Meth K (He.ga K (cname c)) m f ∧ FnR P w K mg base (L2.CX P w) k f (SpS K cl n F)
theorem fn_st {x qual pv : Str} {st : Stmt} {f : Addr} {fd : FuncData} {N ps : List Str} {k : Nat} {body : SF} (F : FnP K x qual st f fd)
    (hbd : ∀ (kV doc pm cdv ct : Value) (an : Option Addr) (us rest : List Value), us.length = ps.length → bindArgs (PySem.W.fnOf x qual (defArgs st) (defBody st) (defScope st) .none kV doc pm an cdv ct) ⟨us ++ rest, []⟩ = (newTuple rest >>= fun t => pure (ps.zip us ++ [(pv, t)])))
    (S : FnScope N (ps ++ [pv]) (defScope st))
    (hbody : ∀ (cdv : Value) (A : Around) (outer : List Env) (s : Shared) (H : Hp) (E : XK), Room k (A.deeper (envOfC qual (defScope st) s.heap.objs.size f cdv)) → Takes (cxOf (L2.CX P w) P w K mg base N qual (defScope st) f cdv A outer s H E) (fun cls d _ H => E cls d H) →
      PassesOwn (model P w) (A.deeper (envOfC qual (defScope st) s.heap.objs.size f cdv)) (envOfC qual (defScope st) s.heap.objs.size f cdv) (cxOf (L2.CX P w) P w K mg base N qual (defScope st) f cdv A outer s H E).xe →
      JSs (cxOf (L2.CX P w) P w K mg base N qual (defScope st) f cdv A outer s H E) cl (fun cls d _ H => E cls d H) (defBody st) body) :
    FnR P w K mg base (L2.CX P w) (k + 1) f (SpS K cl ps.length (fnS N ps.length body)) := by
  obtain ⟨oc, od, dV, kV, doc, pm, an, cdv, ct, osl, rfl, lk, hcd, dv, kv⟩ := F.ex
  have e0 : dV = .none := by
    rcases dv with ⟨_, e⟩ | ⟨e, _⟩
    · exact e
    · exact absurd rfl e
  subst e0
  have G := StX.fn_star (P := P) (w := w) (mg := mg) (base := base) (CX := L2.CX P w) (k := k) (sp := SpF K cl (ps.length + 1) (fnF N (ps.length + 1) body)) lk hcd S StX.cxUp (fun us rest hl => hbd kV doc pm cdv ct an us rest hl) (fun A outer s H vs Q E hr h => by
    obtain ⟨M, ι, st', ds, C, r, e, Pq⟩ := h
    refine ⟨rdS K cl (fun cls d _ H => E cls d H) body, hbody cdv A outer s H E hr (takes_of rfl rfl rfl rfl) (passes_of (X := cxOf (L2.CX P w) P w K mg base N qual (defScope st) f cdv A outer s H E) rfl), M, ι, startD N ds, st', C, RepS.begun N r, ?_⟩
    exact fnF_post e C Pq)
  refine G.imp fun vs H Q E h => ?_
  obtain ⟨M, ι, s, ds, C, r, Pq⟩ := h
  unfold fnS at Pq
  split at Pq
  · rename_i hc
    have hl := r.length
    refine ⟨vs.take ps.length, vs.drop ps.length, (List.take_append_drop _ _).symm, by rw [List.length_take, hl]; exact Nat.min_eq_left hc.1, by rw [(r.drop _).length]; exact lim_le hc.2.2, fun p hp => ?_⟩
    obtain ⟨C1, t1⟩ := C.laid (o := .tup (vs.drop ps.length)) hp
    refine ⟨_, _, s, ds.take ps.length ++ [.tup (ds.drop ps.length)], C1, ((r.take _).step t1).append (.cons (Rep.of ?_) .nil), by rw [List.length_append, List.length_take, Nat.min_eq_left hc.1]; rfl, Post.step Pq t1⟩
    unfold RepF
    exact ⟨p, _, rfl, .inl upd_same, ((r.drop _).flat hc.2.1).step t1⟩
  · exact Pq.elim
end
/-! ### .. called -/
def tMethR (C : Addr) (m : Str) (sp : Sp) (ta : TE) (t : TA) : TE := fun σ H Q => ta σ H fun x H1 => ∃ a dx fs, x = .ref a ∧ H1 a = some (.ins C dx fs) ∧ fs.lookup m = none ∧ t σ H1 fun vs H2 => sp (x :: vs) H2 Q (fun _ _ _ => False)
section
variable {X : Cx} {k : Nat} {f C : Addr} {sp : Sp} {x m : Str} {p pos apos : Pos} {e o : Expr} {es : List Expr} {ta : TE} {t : TA}
theorem pe_methR {pl : Sem Bool} (he : PE X o ta) (c : Cls X.K C) (hm : Meth X.K C m f) (F : FnR X.prog X.w X.K X.mg X.base (L2.CX X.prog X.w) k f sp) (hr : Room k X.A) (ha : PA X (e :: es) t)
    (hst : starEach (e :: es) X.env = (false, eval e X.env) :: starEach es X.env) (hpl : (backTo pos (starEach es X.env)).any (·.1) = false)
    (ht : eval (.Call (.Attribute o m apos) (e :: es) [] pos) X.env = (do
      let ov ← eval o X.env
      standAt apos.atName
      let (f, first) ← holding [ov] (getMethod ov m pl)
      callWith pos f first (backTo pos (starEach (e :: es) X.env)) (backToKw pos (keywordEach [] X.env)))) :
    PE X (.Call (.Attribute o m apos) (e :: es) [] pos) (tMethR C m sp ta t) := by
  constructor
  intro pins s σ H Q I h
  refine PySem.W.methodCall_KW (pl := pl) (thn (he.run pins s σ H _ I h) fun u s1 q => ?_) ht
  obtain ⟨x, H1, I1, rx, a, dx, fs, rfl, ea, l, q⟩ := q
  obtain rfl : u = Value.ref a := rx
  refine getmeth_ok I1 ea c hm l (PySem.W.callWith_K (first := [.ref a]) (h₀ := X.base) I.ok.mod.kin hm.kp (thn (ha.run pos pins s1 σ H1 _ I1 q) fun us s2 q2 => ?_) hst hpl)
  obtain ⟨vs, H2, I2, r, q2⟩ := q2
  exact ⟨I2.kIn, wpAny_call (run_fnR (us := .ref a :: us) (vs := .ref a :: vs) F hr passes_none I2 (.cons rfl r) q2)⟩
theorem pe_methR0 {pl : Sem Bool} (he : PE X o ta) (c : Cls X.K C) (hm : Meth X.K C m f) (F : FnR X.prog X.w X.K X.mg X.base (L2.CX X.prog X.w) k f sp) (hr : Room k X.A)
    (ht : eval (.Call (.Attribute o m apos) [] [] pos) X.env = (do
      let ov ← eval o X.env
      standAt apos.atName
      let (f, first) ← holding [ov] (getMethod ov m pl)
      callWith pos f first (backTo pos (starEach [] X.env)) (backToKw pos (keywordEach [] X.env)))) :
    PE X (.Call (.Attribute o m apos) [] [] pos) (tMethR C m sp ta tNil) := by
  constructor
  intro pins s σ H Q I h
  refine PySem.W.methodCall_KW (pl := pl) (thn (he.run pins s σ H _ I h) fun u s1 q => ?_) ht
  obtain ⟨x, H1, I1, rx, a, dx, fs, rfl, ea, l, q⟩ := q
  obtain rfl : u = Value.ref a := rx
  exact getmeth_ok I1 ea c hm l (PySem.W.callWith_K0 (first := [.ref a]) I1.kIn hm.kp (wpAny_call (run_fnR (us := [.ref a]) (vs := [.ref a]) F hr passes_none I1 (.cons rfl .nil) q)))
end
/-- o.m(..), nothing raised -/
def methSF (c : Nat) (F : FF) (fo : EF) (fr : AF) : EF := fun δ s => (fo δ s).bind fun x s1 => match x with
  | .ob k => match s1[k]? with
    | some (.ins c' _) => if c' = c then (fr δ s1).bind fun xs s2 => noE (F (.ob k :: xs) s2) else .stuck
    | _ => .stuck
  | _ => .stuck
section
variable {X : Cx} {cl : Nat → Value} {W : WX} {o e : Expr} {es : List Expr} {m : Str} {pos apos : Pos} {fo : EF} {fr : AF} {c n k j : Nat} {F : FF}
theorem je_methS {pl : Sem Bool} (J : JSt X.prog X.w X.K X.mg X.base cl k c m n F) (hc : ClsOk X.K c) (hr : Room j X.A) (hk : k ≤ j) (ho : JE X cl W o fo) (ha : JA X cl W (e :: es) fr) (hm : m ∉ fnames c := by decide)
    (hst : starEach (e :: es) X.env = (false, eval e X.env) :: starEach es X.env := by rfl) (hpl : (backTo pos (starEach es X.env)).any (·.1) = false := by rfl)
    (ht : eval (.Call (.Attribute o m apos) (e :: es) [] pos) X.env = (do
      let ov ← eval o X.env
      standAt apos.atName
      let (f, first) ← holding [ov] (getMethod ov m pl)
      callWith pos f first (backTo pos (starEach (e :: es) X.env)) (backToKw pos (keywordEach [] X.env))) := by rfl) :
    JE X cl W (.Call (.Attribute o m apos) (e :: es) [] pos) (methSF c F fo fr) := by
  obtain ⟨f, hM, G⟩ := J.ex
  refine (pe_methR (pl := pl) ho hc.cls hM G (hr.mono hk) ha hst hpl ht).imp fun σ H Q h => ?_
  obtain ⟨M, ι, δ, s, C, S, Pq⟩ := h
  refine ⟨M, ι, δ, s, C, S, Post.mono (Post.bind (Rep X.K) Pq) fun u H1 m1 => ?_⟩
  obtain ⟨M1, ι1, xd, s1, t1, C1, r1, P1⟩ := m1.ex
  split at P1
  · rename_i kk
    split at P1
    · rename_i c' ds ee
      split at P1
      · rename_i hcc
        subst hcc
        obtain ⟨a, rfl, hk2⟩ := r1
        obtain ⟨hM1, dx, vs, h1, r2⟩ := C1.obs kk a _ hk2 ee
        refine ⟨a, dx, _, rfl, h1, zip_none hm, M1, ι1, δ, s1, C1, S.step t1, Post.mono (Post.bind (Reps X.K) P1) fun us H2 m2 => ?_⟩
        obtain ⟨M2, ι2, xs, s2, t2, C2, r3, P2⟩ := m2.ex
        exact ⟨M2, ι2, s2, .ob kk :: xs, C2, .cons ⟨a, rfl, t2.ii _ _ hk2⟩ r3, Post.noE P2⟩
      · exact P1.elim
    · exact P1.elim
  · exact P1.elim
theorem je_methS0 {pl : Sem Bool} (J : JSt X.prog X.w X.K X.mg X.base cl k c m n F) (hc : ClsOk X.K c) (hr : Room j X.A) (hk : k ≤ j) (ho : JE X cl W o fo) (hm : m ∉ fnames c := by decide)
    (ht : eval (.Call (.Attribute o m apos) [] [] pos) X.env = (do
      let ov ← eval o X.env
      standAt apos.atName
      let (f, first) ← holding [ov] (getMethod ov m pl)
      callWith pos f first (backTo pos (starEach [] X.env)) (backToKw pos (keywordEach [] X.env))) := by rfl) :
    JE X cl W (.Call (.Attribute o m apos) [] [] pos) (methSF c F fo nil) := by
  obtain ⟨f, hM, G⟩ := J.ex
  refine (pe_methR0 (pl := pl) ho hc.cls hM G (hr.mono hk) ht).imp fun σ H Q h => ?_
  obtain ⟨M, ι, δ, s, C, S, Pq⟩ := h
  refine ⟨M, ι, δ, s, C, S, Post.mono (Post.bind (Rep X.K) Pq) fun u H1 m1 => ?_⟩
  obtain ⟨M1, ι1, xd, s1, t1, C1, r1, P1⟩ := m1.ex
  split at P1
  · rename_i kk
    split at P1
    · rename_i c' ds ee
      split at P1
      · rename_i hcc
        subst hcc
        obtain ⟨a, rfl, hk2⟩ := r1
        obtain ⟨hM1, dx, vs, h1, r2⟩ := C1.obs kk a _ hk2 ee
        simp only [nil, O.bind_val] at P1
        exact ⟨a, dx, _, rfl, h1, zip_none hm, M1, ι1, s1, [.ob kk], C1, .cons ⟨a, rfl, hk2⟩ .nil, Post.noE P1⟩
      · exact P1.elim
    · exact P1.elim
  · exact P1.elim
end
/-! ### x.pop(), x == [], x[::-1] of a tuple -/
section
variable {X : Cx} {cl : Nat → Value} {W : WX} {e : Expr} {fa : EF}
/-- x[::-1] of a tuple -/
def revT (fa : EF) : EF := fun δ s => (fa δ s).bind fun x s1 => match x with
  | .tup ds => .val (.tup ds.reverse) s1
  | _ => .stuck
end
end Fl
set_option Elab.async false
set_option linter.all false
set_option maxRecDepth 100000
/-! x[::-1] of a tuple, of anything that is walked; x.pop(). -/
namespace Fl
open PySem PySem.Spec PyProof.Rows L2
theorem fm_congr {α β : Type} {f g : α → Option β} : ∀ {l : List α}, (∀ x ∈ l, f x = g x) → l.filterMap f = l.filterMap g
  | [], _ => rfl
  | a :: l, h => by
    rw [List.filterMap_cons, List.filterMap_cons, h a (List.mem_cons_self ..), fm_congr fun x hx => h x (List.mem_cons_of_mem _ hx)]
theorem back_pick (xs : Array Value) : ((List.range xs.size).filterMap fun (m : Nat) => xs[(((xs.size : Int) - 1) + (m : Int) * (-1)).toNat]?) = xs.toList.reverse := by
  apply List.ext_getElem?
  intro i
  have e : ((List.range xs.size).filterMap fun (m : Nat) => xs[(((xs.size : Int) - 1) + (m : Int) * (-1)).toNat]?) = (List.range xs.size).map fun (m : Nat) => (xs[(((xs.size : Int) - 1) + (m : Int) * (-1)).toNat]?).getD .none := by
    rw [← List.filterMap_eq_map]
    refine fm_congr fun m hm => ?_
    have h := List.mem_range.mp hm
    have h2 : (((xs.size : Int) - 1) + (m : Int) * (-1)).toNat < xs.size := by omega
    simp only [Function.comp]
    rw [Array.getElem?_eq_getElem h2]
    rfl
  rw [e, List.getElem?_map]
  by_cases hi : i < xs.size
  · rw [List.getElem?_range hi]
    have h2 : (((xs.size : Int) - 1) + (i : Int) * (-1)).toNat < xs.size := by omega
    have h3 : (((xs.size : Int) - 1) + (i : Int) * (-1)).toNat = xs.size - 1 - i := by omega
    rw [List.getElem?_reverse (by simpa using hi)]
    simp only [Option.map_some, Array.length_toList, Array.getElem?_toList]
    rw [h3] at h2 ⊢
    rw [Array.getElem?_eq_getElem h2]
    rfl
  · rw [List.getElem?_eq_none (by simpa using Nat.le_of_not_lt hi), List.getElem?_eq_none (by simpa using Nat.le_of_not_lt hi)]
    rfl
section
variable {prog : Program} {w : World} {A : Around} {E : Value → Shared → Prop} {s : Shared}
theorem applied_back {sl : Addr} {vl vu vs : Value} {n : Nat} {Q : Int × Int × Nat → Shared → Prop} (hs : s.heap.IsSliceOf sl vl vu vs) (pl : IsPart vl none) (pu : IsPart vu none) (pk : IsPart vs (some (-1)))
    (h : Q ((n : Int) - 1, -1, n) s) : wpAny (model prog w) A (Builtin.Slice.sliceApplied (.ref sl) (pure (n : Int))) Q E s := by
  obtain ⟨os, hos, hcs, hds⟩ := id hs
  have hp : Builtin.Slice.slicePlaces ((n : Int) - 1) (-1) (-1) = n := by
    unfold Builtin.Slice.slicePlaces
    rw [if_neg (by decide)]
    split <;> simp <;> omega
  unfold Builtin.Slice.sliceApplied Builtin.Slice.sliceFields
  refine wpAny_bind (wpAny_bind (wpAny_field hos hds (x := vl) rfl (wpAny_bind (wpAny_field hos hds (x := vu) rfl (wpAny_bind (wpAny_field hos hds (x := vs) rfl (wpAny_pure ?_)))))))
  refine wpAny_bind (HT.slicePart_ pk ?_)
  show wpAny _ _ (if ((-1 : Int) == 0) = true then _ else _) _ _ s
  rw [if_neg (by decide)]
  refine wpAny_bind (HT.slicePart_ pl (wpAny_bind (HT.slicePart_ pu (wpAny_bind (wpAny_pure ?_)))))
  show wpAny _ _ (pure ((n : Int) - 1, (-1 : Int), Builtin.Slice.slicePlaces ((n : Int) - 1) (-1) (-1))) _ _ s
  rw [hp]
  exact wpAny_pure h
theorem getBackT {t sl : Addr} {items : Array Value} {vl vu vs : Value} {Q : Value → Shared → Prop} (ht : IsTup s.heap t items) (hs : s.heap.IsSliceOf sl vl vu vs) (pl : IsPart vl none) (pu : IsPart vu none) (pk : IsPart vs (some (-1)))
    (h : Q (.ref s.heap.objs.size) { s with heap := s.heap.push { cls := .type "tuple", data := .seq items.toList.reverse.toArray } }) (hsz : items.size ≤ sizeLine) : wpAny (model prog w) A (getItem (.ref t) (.ref sl)) Q E s := by
  have hok : sizeOk (.seq items.toList.reverse.toArray) := by
    show items.toList.reverse.toArray.size ≤ sizeLine
    simpa using hsz
  have hTs : s.TypeIs (.ref sl) "slice" := hs.elim fun os q => ⟨os, q.1, q.2.1⟩
  unfold getItem
  try with_reducible refine wpAny_holding ?_
  first | refine wpAny_bind (wpAny_pure ?_) | skip
  refine wpAny_bind (wpAny_sequenceKey ht.typeIs (by decide) (wpAny_bind (wpAny_callSpecial?_slot (name := Str.ofString "__getitem__") ht.typeIs PyProof.Rows.slot_tuple_getitem
    (wpAny_call_entry PyProof.Rows.slot_tuple_getitem ht.typeIs entry_tuple_getitem ?_ (args_tuple_getitem _ _)))))
  show wpAny _ _ (Builtin.Tuple.tupleItemsOf (.ref t) >>= _) _ _ s
  refine wpAny_bind (tupleItemsOf_ ht (wpAny_bind (wpAny_typeOf hTs ?_)))
  rw [if_pos (by decide)]
  refine wpAny_bind (applied_back hs pl pu pk ?_)
  show wpAny _ _ (if (((items.size : Int) - 1) == 0 && (-1 : Int) == 1 && items.size == items.size) = true then _ else _) _ _ s
  rw [if_neg (by simp), back_pick]
  first
    | exact wpAny_bind (m := Builtin.Tuple.tupleExact _) (wpAny_newObj_type (wpAny_pure ⟨_, rfl, wpAny_pure h⟩) hok)
    | exact wpAny_bind (m := Builtin.Tuple.tupleExact _) (wpAny_newObj_type (wpAny_bind (wpAny_pure (wpAny_pure ⟨_, rfl, wpAny_pure h⟩))) hok)
    | exact wpAny_bind (wpAny_bind (m := Builtin.Tuple.tupleExact _) (wpAny_newObj_type (wpAny_pure (wpAny_pure ⟨_, rfl, wpAny_pure h⟩)) hok))
    | exact wpAny_bind (wpAny_bind (m := Builtin.Tuple.tupleExact _) (wpAny_newObj_type (wpAny_pure ⟨_, rfl, wpAny_pure h⟩) hok))
end
def tBackT (K : PySem.W.Frag) (te : TE) : TE := fun σ H Q => te σ H fun x H1 => ∃ a xs, x = .ref a ∧ SqT K H1 a xs ∧ ∀ p, H1 p = none → Q (.ref p) (upd H1 p (.tup xs.reverse))
section
variable {X : Cx} {cl : Nat → Value} {W : WX} {e : Expr} {te : TE} {fa : EF} {k : Nat} {p1 p2 p3 pos : Pos}
theorem pe_backT (he : PE X e te) : PE X (.Subscript e (.Slice none none (some (.UnaryOp .USub (.Constant (.int 1) k p1) p2)) p3) pos) (tBackT X.K te) := by
  constructor
  intro pins s σ H Q I h
  refine Subscript_ (thn (he.run pins s σ H _ I h) fun v s1 z => ?_)
  obtain ⟨x, H1, I1, r1, a, xs, rfl, hx, q⟩ := z
  cases r1
  have hst : PO X (some (.UnaryOp .USub (.Constant (.int 1) k p1) p2)) (tPart (tUn (rU fun i => .int (-i)) (tC (.int 1)))) := po_some (pe_un un_neg pe_int)
  refine wpAny_Slice (thn (po_none.run pins s1 σ H1 (fun o H2 => o = none ∧ H2 = H1) I1 ⟨rfl, rfl⟩) fun vl s2 z2 => ?_)
  obtain ⟨l, H2, I2, pl, rfl, rfl⟩ := z2
  refine thn (po_none.run pins s2 σ H2 (fun o H3 => o = none ∧ H3 = H2) I2 ⟨rfl, rfl⟩) fun vu s3 z3 => ?_
  obtain ⟨u, H3, I3, pu, rfl, rfl⟩ := z3
  refine thn (hst.run pins s3 σ H3 (fun o H4 => o = some (-1) ∧ H4 = H3) I3 ⟨1, rfl, -1, rfl, rfl, rfl⟩) fun vs s4 z4 => ?_
  obtain ⟨o, H4, I4, pk, rfl, rfl⟩ := z4
  have I5 : Inv X pins σ H4 { s4 with heap := s4.heap.push { cls := .type "slice", data := .fields #[vl, vu, vs] } } := I4.kept (t' := s4.toks) fun b ob z => Heap.get?_push_of_some _ z
  obtain ⟨its, r, ht, hz⟩ := I5.tuple hx
  show wpAny (model X.prog X.w) X.A (subscriptTail e (.Slice none none (some (.UnaryOp .USub (.Constant (.int 1) k p1) p2)) p3) (.ref a) (.ref s4.heap.objs.size)) (EP X pins σ Q) X.xe _
  refine tail_any (ops := [.ref a, .ref s4.heap.objs.size]) ht.typeIs PyProof.Rows.slot_tuple_getitem.lookup ?_ (by with_unfolding_all rfl)
  have hlen := r.length
  refine getBackT ht (Heap.IsSliceOf.new _ vl vu vs) pl pu pk ?_ (by rw [List.size_toArray]; omega)
  refine ⟨.ref _, _, I5.laid (t' := s4.toks) (o := .tup xs.reverse) (fun b ob z => Heap.get?_push_of_some _ z) (Nat.le_refl _) ?_, rfl, q _ (I5.hok.fresh (Nat.le_refl _))⟩
  exact ⟨by rw [List.length_reverse]; exact hz, _, r.reverse, IsTup.new _ _⟩
theorem RepL.rev {K : PySem.W.Frag} {M : Hp} : ∀ {ds : List D} {vs : List V}, RepL K M ds vs → RepL K M ds.reverse vs.reverse
  | [], _, h => by rw [h.unnil]; exact .nil
  | d :: ds, _, h => by
    obtain ⟨v, r, rfl, h1, h2⟩ := h.uncons
    rw [List.reverse_cons, List.reverse_cons]
    exact (RepL.rev h2).append (.cons h1 .nil)
theorem je_revT (he : JE X cl W e fa) : JE X cl W (.Subscript e (.Slice none none (some (.UnaryOp .USub (.Constant (.int 1) k p1) p2)) p3) pos) (revT fa) := (pe_backT he).imp fun σ H Q h => by
  obtain ⟨M, ι, δ, s, C, S, P⟩ := h
  refine ⟨M, ι, δ, s, C, S, Post.mono (Post.bind (Rep X.K) P) fun u H1 m => ?_⟩
  obtain ⟨M1, ι1, x, s1, t1, C1, r1, P1⟩ := m.ex
  split at P1
  · rename_i ds
    obtain ⟨a, vs, rfl, h1, r2⟩ := r1.tup
    exact ⟨a, vs, rfl, Ex.t C1.sub h1.sq, fun p hp => Post.laidT P1 C1 r2.rev hp⟩
  · exact P1.elim
end
/-! ### isinstance(x, an own class) -/
/-- what of the text a class must have -/
structure IsiOk (K : PySem.W.Frag) (mg : Str → Option Value) (c : Nat) : Prop where
  gl : mg (cname c) = some (.ref (He.ga K (cname c)))
  at_ : PySem.W.findIn K (.ref (He.ga K (cname c))) "__class__" = some (some (.builtin "object.__class__"))
  get : PySem.W.specialIn K (.builtin "object.__class__") "__get__" = some (some (.builtin "getset_descriptor.__get__"))
  tk : PySem.W.takesIn K (.builtin "object.__class__") = some true
  mro : PySem.W.mroIn K (He.ga K (cname c)) (.type "object") = some true
  ks : PySem.W.kitOne K (.type "str") (.ref (He.ga K (cname c))) = some false
  kt : PySem.W.kitOne K (.type "tuple") (.ref (He.ga K (cname c))) = some false
theorem isi_ok {K : PySem.W.Frag} {mg : Str → Option Value} {c : Nat} (g : mg (cname c) = some (.ref (He.ga K (cname c)))) (h : (Fb.isi (cname c)).ok K = true) : IsiOk K mg c := by
  obtain ⟨a1, h⟩ := He.ba h
  obtain ⟨a2, h⟩ := He.ba h
  obtain ⟨a3, h⟩ := He.ba h
  obtain ⟨a4, h⟩ := He.ba h
  obtain ⟨a5, a6⟩ := He.ba h
  exact ⟨g, He.eqO_ok a1, He.eqO_ok a2, of_decide_eq_true a3, of_decide_eq_true a4, of_decide_eq_true a5, of_decide_eq_true a6⟩
theorem ops_ok {K : PySem.W.Frag} {c : Nat} (h : (Fb.ops (cname c)).ok K = true) : ClsOps K c := by
  obtain ⟨a1, h⟩ := He.ba h
  obtain ⟨a2, h⟩ := He.ba h
  obtain ⟨a3, h⟩ := He.ba h
  obtain ⟨a4, a5⟩ := He.ba h
  exact ⟨a1, a2, a3, He.eqO_ok a4, of_decide_eq_true a5⟩
/-- isinstance(fa, class c) -/
def isiO (c : Nat) (fa : EF) : EF := fun δ s => (fa δ s).bind fun x s1 => match x with
  | .str _ => .val (.bl false) s1
  | .tup _ => .val (.bl false) s1
  | x => if insB c s1 x = true then .val (.bl true) s1 else .stuck
section
variable {X : Cx} {cl : Nat → Value} {W : WX} {e : Expr} {fa : EF} {c : Nat} {x : Str} {p p2 pos : Pos}
theorem je_isiO (hx : cname c = x) (hc : ClsOk X.K c) (O : IsiOk X.K X.mg c) (hg : Gl X "isinstance") (hm : X.mg "isinstance" = none) (hv : bootBuiltins "isinstance" = some (.builtin "isinstance")) (hgx : Gl X x) (he : JE X cl W e fa) (hdb : (x == ("__debug__" : Str)) = false := by decide)
    (hs : starEach [e, .Name x p2] X.env = (false, eval e X.env) :: starEach [.Name x p2] X.env := by rfl) (hs2 : starEach [.Name x p2] X.env = (false, eval (.Name x p2) X.env) :: starEach [] X.env := by rfl) (hpl : (backTo pos (starEach [.Name x p2] X.env)).any (·.1) = false := by rfl) :
    JE X cl W (.Call (.Name "isinstance" p) [e, .Name x p2] [] pos) (isiO c fa) := by
  subst hx
  refine (pe_callB call_isi hg hm hv (pa_cons he (pa_cons (pe_glob (v := .ref (He.ga X.K (cname c))) hgx O.gl rfl hdb) pa_nil hs2) hs) (by decide) (by decide) hs hpl).imp fun σ H Q h => ?_
  obtain ⟨M, ι, δ, s, C, S, P⟩ := h
  refine ⟨M, ι, δ, s, C, S, Post.mono (Post.bind (Rep X.K) P) fun u H1 m => ?_⟩
  obtain ⟨M1, ι1, xd, s1, t1, C1, r1, P1⟩ := m.ex
  split at P1
  · rename_i z
    exact ⟨u, .ref (He.ga X.K (cname c)), .type "str", .ref (He.ga X.K (cname c)), false, rfl, .own _, (C1.sees r1).ty C1.sub rfl, O.ks, Post.now (C := Rep X.K) P1 C1 rf_bl⟩
  · rename_i z
    exact ⟨u, .ref (He.ga X.K (cname c)), .type "tuple", .ref (He.ga X.K (cname c)), false, rfl, .own _, (C1.sees r1).ty C1.sub rfl, O.kt, Post.now (C := Rep X.K) P1 C1 rf_bl⟩
  · split at P1
    · rename_i hi
      obtain ⟨i, a, dx, fs, rfl, rfl, h1⟩ := insB_at hi C1 r1
      refine ⟨.ref a, .ref (He.ga X.K (cname c)), .ref (He.ga X.K (cname c)), .ref (He.ga X.K (cname c)), true, rfl, .own _, .base (.ins h1 hc.cls O.at_ O.get O.tk O.mro), ?_, Post.now (C := Rep X.K) P1 C1 rf_bl⟩
      unfold PySem.W.kitOne
      rw [if_pos (by simp)]
    · exact P1.elim
end
end Fl
set_option Elab.async false
set_option linter.all false
set_option maxRecDepth 100000
namespace Fl
open PySem PySem.Spec PyProof.Rows L2
/-! _law_draw -/
def N_law_draw : List Str := ["tape", "many", "prime", "cell", "found"]
noncomputable def b_law_draw : SF :=
    seqS (setS 2 (cF (.int 2305843009213693951)))
    (seqS (ifS (tst (bin ltG (bin ixG (varF 0) (cF (.int 2))) (varF 1))) (seqS (setS 3 (cF (.int 0)))
    (seqS (ifS (tst (bin gtG (fnB lenG (con (bin ixG (varF 0) (cF (.int 0))) (nil))) (cF (.int 0)))) (setS 3 (bin ixG (bin ixG (varF 0) (cF (.int 0))) (bin modG (bin ixG (varF 0) (cF (.int 1))) (fnB lenG (con (bin ixG (varF 0) (cF (.int 0))) (nil)))))) (passS))
    (seqS (ifS (orT (tst (bin geG (bin ixG (varF 0) (cF (.int 1))) (fnB lenG (con (bin ixG (varF 0) (cF (.int 0))) (nil))))) (tst (bin ltG (varF 3) (bin powG (cF (.int 10)) (cF (.int 18)))))) (seqS (setS 3 (bin modG (bin addG (varF 3) (bin mulG (cF (.int 1000003)) (bin ixG (varF 0) (cF (.int 1))))) (varF 2)))
    (seqS (setS 3 (bin modG (bin addG (bin addG (bin mulG (varF 3) (varF 3)) (bin mulG (cF (.int 1181783497276652981)) (varF 3))) (cF (.int 2049848353892358983))) (varF 2)))
    (setS 3 (bin modG (bin addG (bin mulG (varF 3) (varF 3)) (cF (.int 1442695040888963407))) (varF 2))))) (passS))
    (seqS (asgS' (bin addG (bin ixG (varF 0) (cF (.int 1))) (cF (.int 1))) (setI (varF 0) (cF (.int 1))))
    (asgS' (varF 3) (setI (varF 0) (cF (.int 2)))))))) (passS))
    (seqS (setS 4 (bin modG (bin ixG (varF 0) (cF (.int 2))) (varF 1)))
    (seqS (asgS' (bin divG (bin ixG (varF 0) (cF (.int 2))) (varF 1)) (setI (varF 0) (cF (.int 2))))
    (retS (varF 4)))))
noncomputable def m_law_draw : FF := fnF N_law_draw 2 b_law_draw
/-! _law_row -/
def N_law_row : List Str := ["tape", "days", "much", "found", "day"]
noncomputable def l_law_row_1 : SF :=
    setS 3 (bin addG (varF 3) (bin ixG (cF (.str [119, 102])) (fnB intOf (con (bin eqG (callF 2 m_law_draw (con (varF 0) (con (bin addG (varF 2) (cF (.int 1))) (nil)))) (cF (.int 0))) (nil)))))
noncomputable def b_law_row : SF :=
    seqS (parS 2 3 (con (bin ixG (lstE (con (cF (.int 1)) (con (cF (.int 2)) (con (cF (.int 5)) (nil))))) (callF 2 m_law_draw (con (varF 0) (con (cF (.int 3)) (nil))))) (con (cF (.str [])) (nil))))
    (seqS (forS (rng1F (con (varF 1) (nil))) (nameG 4) (l_law_row_1))
    (retS (varF 3)))
noncomputable def m_law_row : FF := fnF N_law_row 2 b_law_row
/-! _law_masked -/
def N_law_masked : List Str := ["tape", "row", "much", "found", "letter"]
noncomputable def l_law_masked_1 : SF :=
    setS 3 (bin addG (varF 3) (iteE (tst (bin eqG (callF 2 m_law_draw (con (varF 0) (con (bin addG (varF 2) (cF (.int 1))) (nil)))) (cF (.int 0)))) (varF 4) (cF (.str [63]))))
noncomputable def b_law_masked : SF :=
    seqS (parS 2 3 (con (bin addG (cF (.int 1)) (callF 2 m_law_draw (con (varF 0) (con (cF (.int 4)) (nil))))) (con (cF (.str [])) (nil))))
    (seqS (forS (walkF (varF 1)) (nameG 4) (l_law_masked_1))
    (retS (varF 3)))
noncomputable def m_law_masked : FF := fnF N_law_masked 2 b_law_masked
/-! _law_due -/
def N_law_due : List Str := ["row", "start", "count", "some", "day"]
noncomputable def b_law_due : SF :=
    seqS (setS 3 (compF (rng2F (con (bin addG (varF 1) (cF (.int 1))) (con (fnB lenG (con (varF 0) (nil))) (nil)))) [4] (nameG 4) (tst (bin eqG (bin ixG (varF 0) (varF 4)) (cF (.str [119])))) (varF 4)))
    (retS (iteE (tst (bin leG (varF 2) (fnB lenG (con (varF 3) (nil))))) (bin ixG (varF 3) (bin subG (varF 2) (cF (.int 1)))) (fnB lenG (con (varF 0) (nil)))))
noncomputable def m_law_due : FF := fnF N_law_due 3 b_law_due
/-! _law_promise -/
def N_law_promise : List Str := ["tape", "row", "days", "start", "kind", "count", "due", "end"]
noncomputable def b_law_promise : SF :=
    seqS (setS 2 (fnB lenG (con (varF 1) (nil))))
    (seqS (setS 3 (bin subG (callF 2 m_law_draw (con (varF 0) (con (varF 2) (nil)))) (cF (.int 1))))
    (seqS (setS 4 (bin ixG (lstE (con (cF (.str [111, 110])) (con (cF (.str [111, 110])) (con (cF (.str [98, 121])) (con (cF (.str [102, 114, 111, 109])) (nil)))))) (callF 2 m_law_draw (con (varF 0) (con (cF (.int 4)) (nil))))))
    (seqS (setS 5 (bin addG (cF (.int 1)) (callF 2 m_law_draw (con (varF 0) (con (fnB minG (con (varF 2) (con (cF (.int 6)) (nil)))) (nil))))))
    (seqS (setS 6 (callF 3 m_law_due (con (varF 1) (con (varF 3) (con (varF 5) (nil))))))
    (seqS (setS 7 (bin addG (bin addG (varF 3) (cF (.int 1))) (callF 2 m_law_draw (con (varF 0) (con (bin subG (bin subG (varF 2) (cF (.int 1))) (varF 3)) (nil))))))
    (seqS (ifS (tst (bin gtG (callF 2 m_law_draw (con (varF 0) (con (cF (.int 6)) (nil)))) (cF (.int 0)))) (seqS (ifS (andT (tst (bin eqG (varF 4) (cF (.str [111, 110])))) (tst (bin ltG (varF 6) (varF 2)))) (setS 7 (varF 6)) (passS))
    (seqS (ifS (andT (tst (bin eqG (varF 4) (cF (.str [98, 121])))) (tst (bin ltG (varF 6) (varF 2)))) (setS 7 (bin addG (varF 6) (callF 2 m_law_draw (con (varF 0) (con (bin subG (varF 2) (varF 6)) (nil)))))) (passS))
    (ifS (tst (bin eqG (varF 4) (cF (.str [102, 114, 111, 109])))) (setS 7 (bin addG (bin addG (varF 3) (cF (.int 1))) (callF 2 m_law_draw (con (varF 0) (con (bin subG (fnB minG (con (varF 6) (con (bin subG (varF 2) (cF (.int 1))) (nil)))) (varF 3)) (nil)))))) (passS)))) (passS))
    (retS (tupE (con (varF 4) (con (varF 3) (con (varF 5) (con (varF 7) (nil)))))))))))))
noncomputable def m_law_promise : FF := fnF N_law_promise 2 b_law_promise
/-! _law_promises -/
def N_law_promises : List Str := ["tape", "row", "most", "found", "k"]
noncomputable def l_law_promises_1 : SF :=
    setS 3 (bin addG (varF 3) (tupE (con (callF 2 m_law_promise (con (varF 0) (con (varF 1) (nil)))) (nil))))
noncomputable def b_law_promises : SF :=
    seqS (setS 3 (tupE (nil)))
    (seqS (forS (rng1F (con (callF 2 m_law_draw (con (varF 0) (con (bin addG (varF 2) (cF (.int 1))) (nil)))) (nil))) (nameG 4) (l_law_promises_1))
    (retS (varF 3)))
noncomputable def m_law_promises : FF := fnF N_law_promises 3 b_law_promises
/-! _law_case -/
def N_law_case : List Str := ["tape", "days", "most", "row"]
noncomputable def b_law_case : SF :=
    seqS (setS 3 (callF 2 m_law_row (con (varF 0) (con (bin addG (cF (.int 1)) (callF 2 m_law_draw (con (varF 0) (con (varF 1) (nil))))) (nil)))))
    (retS (tupE (con (callF 2 m_law_masked (con (varF 0) (con (varF 3) (nil)))) (con (callF 3 m_law_promises (con (varF 0) (con (varF 3) (con (varF 2) (nil))))) (nil)))))
noncomputable def m_law_case : FF := fnF N_law_case 3 b_law_case
/-! _law_any -/
def N_law_any : List Str := ["tape", "deep", "course", "some", "k"]
noncomputable def b_law_any (R : FF) : SF :=
    seqS (setS 2 (callF 2 m_law_draw (con (varF 0) (con (cF (.int 13)) (nil)))))
    (seqS (ifS (andT (tst (bin ltG (varF 2) (cF (.int 4)))) (tst (bin gtG (varF 1) (cF (.int 0))))) (seqS (setS 3 (compF (rng1F (con (callF 2 m_law_draw (con (varF 0) (con (cF (.int 4)) (nil)))) (nil))) [4] (nameG 4) (yes) (callF 2 R (con (varF 0) (con (bin subG (varF 1) (cF (.int 1))) (nil))))))
    (retS (bin ixG (lstE (con (varF 3) (con (fnB tupleG (con (varF 3) (nil))) (con (fnB tupleG (con (varF 3) (nil))) (con (fnB tupleG (con (varF 3) (nil))) (nil)))))) (varF 2)))) (passS))
    (seqS (ifS (tst (bin ltG (varF 2) (cF (.int 8)))) (retS (bin ixG (lstE (con (bin subG (callF 2 m_law_draw (con (varF 0) (con (cF (.int 12)) (nil)))) (cF (.int 2))) (con (callF 2 m_law_draw (con (varF 0) (con (bin powG (cF (.int 10)) (cF (.int 12))) (nil)))) (con (cF (.int 0)) (con (cF (.int 3)) (nil)))))) (fnB maxG (con (cF (.int 0)) (con (bin subG (varF 2) (cF (.int 4))) (nil)))))) (passS))
    (seqS (setS 3 (lstE (con (cF (.str [])) (con (cF (.str [32])) (con (cF (.str [119])) (con (cF (.str [119, 63, 102])) (con (cF (.str [111, 110])) (con (cF (.str [65])) (con (cF (.str [119, 10, 102])) (nil))))))))))
    (retS (bin ixG (lstE (con (cF (.bl true)) (con (cF (.bl false)) (con (cF .non) (con (bin ixG (varF 3) (callF 2 m_law_draw (con (varF 0) (con (cF (.int 7)) (nil))))) (con (tupE (con (cF (.int 1)) (con (cF (.int 2)) (nil)))) (nil))))))) (bin subG (varF 2) (cF (.int 8))))))))
noncomputable def m_law_any_n : Nat → FF
  | 0 => fun _ _ => .stuck
  | k + 1 => fnF N_law_any 2 (b_law_any (m_law_any_n k))
noncomputable def m_law_any : FF := m_law_any_n 4
/-! _law_whole -/
def N_law_whole : List Str := ["item"]
noncomputable def b_law_whole : SF :=
    retS (andE (fnB isiG (con (varF 0) (con (cF (.ty "int")) (nil)))) (notE (fnB isiG (con (varF 0) (con (cF (.ty "bool")) (nil))))))
noncomputable def m_law_whole : FF := fnF N_law_whole 1 b_law_whole
/-! _law_spoilt -/
def N_law_spoilt : List Str := ["tape", "item", "k", "rest", "course", "at"]
noncomputable def b_law_spoilt (R : FF) : SF :=
    seqS (ifS (andT (tst (fnB isiG (con (varF 1) (con (tupE (con (cF (.ty "tuple")) (con (cF (.ty "list")) (nil)))) (nil))))) (andT (tst (bin gtG (fnB lenG (con (varF 1) (nil))) (cF (.int 0)))) (tst (bin gtG (callF 2 m_law_draw (con (varF 0) (con (cF (.int 7)) (nil)))) (cF (.int 0)))))) (seqS (setS 2 (callF 2 m_law_draw (con (varF 0) (con (fnB lenG (con (varF 1) (nil))) (nil)))))
    (seqS (setS 3 (fnB listO (con (varF 1) (nil))))
    (seqS (setS 4 (callF 2 m_law_draw (con (varF 0) (con (cF (.int 12)) (nil)))))
    (seqS (ifS (tst (bin ltG (varF 4) (cF (.int 8)))) (asgS' (callF 2 R (con (varF 0) (con (bin ixG (varF 3) (varF 2)) (nil)))) (setI (varF 3) (varF 2))) (ifS (tst (bin eqG (varF 4) (cF (.int 8)))) (dropS (meB' isOwn popG (varF 3) (con (varF 2) (nil)))) (ifS (tst (bin eqG (varF 4) (cF (.int 9)))) (dropS (meB' isOwn insG (varF 3) (con (varF 2) (con (bin ixG (varF 3) (callF 2 m_law_draw (con (varF 0) (con (fnB lenG (con (varF 3) (nil))) (nil))))) (nil))))) (ifS (tst (bin eqG (varF 4) (cF (.int 10)))) (setS 3 (revO (varF 3))) (dropS (meB' isOwn insG (varF 3) (con (varF 2) (con (callF 2 m_law_any (con (varF 0) (con (cF (.int 1)) (nil)))) (nil)))))))))
    (retS (iteE (tst (fnB isiG (con (varF 1) (con (cF (.ty "tuple")) (nil))))) (fnB tupleG (con (varF 3) (nil))) (varF 3))))))) (passS))
    (seqS (ifS (andT (tst (callF 1 m_law_whole (con (varF 1) (nil)))) (tst (bin gtG (callF 2 m_law_draw (con (varF 0) (con (cF (.int 6)) (nil)))) (cF (.int 0))))) (retS (bin addG (varF 1) (bin ixG (lstE (con (cF (.int 1)) (con (una negG (cF (.int 1))) (con (cF (.int 2)) (con (una negG (cF (.int 2))) (con (cF (.int 9)) (con (cF (.int 1000)) (nil)))))))) (callF 2 m_law_draw (con (varF 0) (con (cF (.int 6)) (nil))))))) (passS))
    (seqS (ifS (andT (tst (fnB isiG (con (varF 1) (con (cF (.ty "str")) (nil))))) (tst (bin gtG (callF 2 m_law_draw (con (varF 0) (con (cF (.int 3)) (nil)))) (cF (.int 0))))) (seqS (setS 5 (callF 2 m_law_draw (con (varF 0) (con (bin addG (fnB lenG (con (varF 1) (nil))) (cF (.int 1))) (nil)))))
    (retS (bin addG (bin addG (slF slG (varF 1) noP (parF (varF 5))) (bin ixG (lstE (con (cF (.str [32])) (con (cF (.str [122])) (con (cF (.str [65])) (con (cF (.str [124])) (con (cF (.str [97, 98, 99, 100, 101, 102, 103, 104])) (con (cF (.str [])) (nil)))))))) (callF 2 m_law_draw (con (varF 0) (con (cF (.int 6)) (nil)))))) (slF slG (varF 1) (parF (varF 5)) noP)))) (passS))
    (seqS (ifS (andT (tst (fnB isiG (con (varF 1) (con (tupE (con (cF (.ty "tuple")) (con (cF (.ty "list")) (nil)))) (nil))))) (tst (bin eqG (callF 2 m_law_draw (con (varF 0) (con (cF (.int 2)) (nil)))) (cF (.int 0))))) (retS (iteE (tst (fnB isiG (con (varF 1) (con (cF (.ty "tuple")) (nil))))) (fnB listF (con (varF 1) (nil))) (fnB tupleG (con (varF 1) (nil))))) (passS))
    (retS (callF 2 m_law_any (con (varF 0) (con (cF (.int 2)) (nil))))))))
noncomputable def m_law_spoilt_n : Nat → FF
  | 0 => fun _ _ => .stuck
  | k + 1 => fnF N_law_spoilt 2 (b_law_spoilt (m_law_spoilt_n k))
noncomputable def m_law_spoilt : FF := m_law_spoilt_n 6
/-! are_letters -/
def N_are_letters : List Str := ["value", "letters", "letter"]
noncomputable def b_are_letters : SF :=
    retS (andE (fnB isiG (con (varF 0) (con (cF (.ty "str")) (nil)))) (andE (chain leG leG (cF (.int 1)) (fnB lenG (con (varF 0) (nil))) (cF (.int 31))) (fnB allG (con (compF (walkF (varF 0)) [2] (nameG 2) (yes) (bin inG (varF 2) (varF 1))) (nil)))))
noncomputable def m_are_letters : FF := fnF N_are_letters 2 b_are_letters
/-! is_row -/
def N_is_row : List Str := ["value"]
noncomputable def b_is_row : SF :=
    retS (callF 2 m_are_letters (con (varF 0) (con (cF (.str [119, 102])) (nil))))
noncomputable def m_is_row : FF := fnF N_is_row 1 b_is_row
/-! _law_letters -/
def N_law_letters : List Str := ["item", "letters", "s"]
noncomputable def b_law_letters : SF :=
    retS (andE (fnB isiG (con (varF 0) (con (cF (.ty "str")) (nil)))) (andE (chain leG leG (cF (.int 1)) (fnB lenG (con (varF 0) (nil))) (cF (.int 31))) (bin eqG (compF (walkF (varF 0)) [2] (nameG 2) (tst (bin ninG (varF 2) (varF 1))) (varF 2)) (lstE (nil)))))
noncomputable def m_law_letters : FF := fnF N_law_letters 2 b_law_letters
/-! _law_like -/
def N_law_like : List Str := ["one", "two", "k"]
noncomputable def b_law_like (R : FF) : SF :=
    seqS (ifS (tst (fnB isiG (con (varF 0) (con (tupE (con (cF (.ty "list")) (con (cF (.ty "tuple")) (nil)))) (nil))))) (seqS (ifS (orT (tst (bin neG (fnB isiG (con (varF 0) (con (cF (.ty "list")) (nil)))) (fnB isiG (con (varF 1) (con (cF (.ty "list")) (nil)))))) (tst (bin neG (fnB isiG (con (varF 0) (con (cF (.ty "tuple")) (nil)))) (fnB isiG (con (varF 1) (con (cF (.ty "tuple")) (nil))))))) (retS (cF (.bl false))) (passS))
    (seqS (ifS (tst (bin neG (fnB lenG (con (varF 0) (nil))) (fnB lenG (con (varF 1) (nil))))) (retS (cF (.bl false))) (passS))
    (retS (bin eqG (compF (rng1F (con (fnB lenG (con (varF 0) (nil))) (nil))) [2] (nameG 2) (notT (tst (callF 2 R (con (bin ixG (varF 0) (varF 2)) (con (bin ixG (varF 1) (varF 2)) (nil)))))) (varF 2)) (lstE (nil)))))) (passS))
    (seqS (ifS (tst (fnB isiG (con (varF 1) (con (tupE (con (cF (.ty "list")) (con (cF (.ty "tuple")) (nil)))) (nil))))) (retS (cF (.bl false))) (passS))
    (retS (andE (bin eqG (fnB isiG (con (varF 0) (con (cF (.ty "bool")) (nil)))) (fnB isiG (con (varF 1) (con (cF (.ty "bool")) (nil))))) (bin eqG (varF 0) (varF 1)))))
noncomputable def m_law_like_n : Nat → FF
  | 0 => fun _ _ => .stuck
  | k + 1 => fnF N_law_like 2 (b_law_like (m_law_like_n k))
noncomputable def m_law_like : FF := m_law_like_n 4
/-! is_known -/
def N_is_known : List Str := ["value"]
noncomputable def b_is_known : SF :=
    retS (callF 2 m_are_letters (con (varF 0) (con (cF (.str [119, 102, 63])) (nil))))
noncomputable def m_is_known : FF := fnF N_is_known 1 b_is_known
/-! is_integer -/
def N_is_integer : List Str := ["value", "low", "high"]
noncomputable def b_is_integer : SF :=
    retS (andE (fnB isiG (con (varF 0) (con (cF (.ty "int")) (nil)))) (andE (notE (fnB isiG (con (varF 0) (con (cF (.ty "bool")) (nil))))) (chain leG leG (varF 1) (varF 0) (varF 2))))
noncomputable def m_is_integer : FF := fnF N_is_integer 3 b_is_integer
/-! is_promise -/
def N_is_promise : List Str := ["known", "value", "days"]
noncomputable def b_is_promise : SF :=
    seqS (ifS (orT (notT (tst (fnB isiG (con (varF 1) (con (cF (.ty "tuple")) (nil)))))) (orT (tst (bin neG (fnB lenG (con (varF 1) (nil))) (cF (.int 4)))) (orT (notT (tst (fnB isiG (con (bin ixG (varF 1) (cF (.int 0))) (con (cF (.ty "str")) (nil)))))) (tst (bin ninG (bin ixG (varF 1) (cF (.int 0))) (cF (.tup [.str [111, 110], .str [98, 121], .str [102, 114, 111, 109]]))))))) (retS (cF (.bl false))) (passS))
    (seqS (setS 2 (fnB lenG (con (varF 0) (nil))))
    (seqS (ifS (orT (notT (tst (callF 3 m_is_integer (con (bin ixG (varF 1) (cF (.int 1))) (con (una negG (cF (.int 1))) (con (bin subG (varF 2) (cF (.int 2))) (nil))))))) (notT (tst (callF 3 m_is_integer (con (bin ixG (varF 1) (cF (.int 2))) (con (cF (.int 1)) (con (varF 2) (nil)))))))) (retS (cF (.bl false))) (passS))
    (retS (callF 3 m_is_integer (con (bin ixG (varF 1) (cF (.int 3))) (con (bin addG (bin ixG (varF 1) (cF (.int 1))) (cF (.int 1))) (con (bin subG (varF 2) (cF (.int 1))) (nil))))))))
noncomputable def m_is_promise : FF := fnF N_is_promise 2 b_is_promise
/-! _law_within -/
def N_law_within : List Str := ["item", "low", "high"]
noncomputable def b_law_within : SF :=
    retS (andE (callF 1 m_law_whole (con (varF 0) (nil))) (chain leG leG (varF 1) (varF 0) (varF 2)))
noncomputable def m_law_within : FF := fnF N_law_within 3 b_law_within
/-! _law_is_promise -/
def N_law_is_promise : List Str := ["days", "item"]
noncomputable def b_law_is_promise : SF :=
    seqS (ifS (orT (notT (tst (fnB isiG (con (varF 1) (con (cF (.ty "tuple")) (nil)))))) (orT (tst (bin neG (fnB lenG (con (varF 1) (nil))) (cF (.int 4)))) (notT (tst (fnB isiG (con (bin ixG (varF 1) (cF (.int 0))) (con (cF (.ty "str")) (nil)))))))) (retS (cF (.bl false))) (passS))
    (seqS (ifS (orT (tst (bin ninG (bin ixG (varF 1) (cF (.int 0))) (tupE (con (cF (.str [111, 110])) (con (cF (.str [98, 121])) (con (cF (.str [102, 114, 111, 109])) (nil))))))) (notT (tst (callF 3 m_law_within (con (bin ixG (varF 1) (cF (.int 1))) (con (una negG (cF (.int 1))) (con (bin subG (varF 0) (cF (.int 2))) (nil)))))))) (retS (cF (.bl false))) (passS))
    (retS (andE (callF 3 m_law_within (con (bin ixG (varF 1) (cF (.int 2))) (con (cF (.int 1)) (con (varF 0) (nil))))) (callF 3 m_law_within (con (bin ixG (varF 1) (cF (.int 3))) (con (bin addG (bin ixG (varF 1) (cF (.int 1))) (cF (.int 1))) (con (bin subG (varF 0) (cF (.int 1))) (nil))))))))
noncomputable def m_law_is_promise : FF := fnF N_law_is_promise 2 b_law_is_promise
/-! are_promises -/
def N_are_promises : List Str := ["known", "value", "promise"]
noncomputable def b_are_promises : SF :=
    seqS (ifS (orT (notT (tst (fnB isiG (con (varF 1) (con (cF (.ty "tuple")) (nil)))))) (tst (bin gtG (fnB lenG (con (varF 1) (nil))) (cF (.int 6))))) (retS (cF (.bl false))) (passS))
    (retS (fnB allG (con (compF (walkF (varF 1)) [2] (nameG 2) (yes) (callF 2 m_is_promise (con (varF 0) (con (varF 2) (nil))))) (nil))))
noncomputable def m_are_promises : FF := fnF N_are_promises 2 b_are_promises
/-! law -/
def N_law_k01 : List Str := ["script", "tape", "turn", "known", "promises", "days", "one", "things", "k", "thing", "good", "own"]
noncomputable def l_law_k01_1 : SF :=
    seqS (dropS (meB' isOwn appG (varF 7) (con (callF 2 m_law_spoilt (con (varF 1) (con (varF 6) (nil)))) (nil))))
    (seqS (dropS (meB' isOwn appG (varF 7) (con (callF 2 m_law_spoilt (con (varF 1) (con (varF 4) (nil)))) (nil))))
    (dropS (meB' isOwn appG (varF 7) (con (callF 2 m_law_spoilt (con (varF 1) (con (callF 2 m_law_promise (con (varF 1) (con (bin mulG (cF (.str [119])) (varF 5)) (nil)))) (nil)))) (nil)))))
noncomputable def l_law_k01_2 : SF :=
    seqS (ifS (notT (tst (callF 2 m_law_like (con (callF 1 m_is_row (con (varF 9) (nil))) (con (callF 2 m_law_letters (con (varF 9) (con (cF (.str [119, 102])) (nil)))) (nil)))))) (retS (cF (.bl false))) (passS))
    (seqS (ifS (notT (tst (callF 2 m_law_like (con (callF 1 m_is_known (con (varF 9) (nil))) (con (callF 2 m_law_letters (con (varF 9) (con (cF (.str [119, 102, 63])) (nil)))) (nil)))))) (retS (cF (.bl false))) (passS))
    (seqS (ifS (notT (tst (callF 2 m_law_like (con (callF 2 m_is_promise (con (varF 3) (con (varF 9) (nil)))) (con (callF 2 m_law_is_promise (con (varF 5) (con (varF 9) (nil)))) (nil)))))) (retS (cF (.bl false))) (passS))
    (seqS (setS 10 (andE (fnB isiG (con (varF 9) (con (cF (.ty "tuple")) (nil)))) (bin leG (fnB lenG (con (varF 9) (nil))) (cF (.int 6)))))
    (seqS (setS 10 (andE (varF 10) (bin eqG (compF (walkF (varF 9)) [11] (nameG 11) (notT (tst (callF 2 m_law_is_promise (con (varF 5) (con (varF 11) (nil)))))) (varF 11)) (lstE (nil)))))
    (ifS (notT (tst (callF 2 m_law_like (con (callF 2 m_are_promises (con (varF 3) (con (varF 9) (nil)))) (con (varF 10) (nil)))))) (retS (cF (.bl false))) (passS))))))
noncomputable def l_law_k01_3 : SF :=
    seqS (asgS' (callF 3 m_law_case (con (varF 1) (con (cF (.int 31)) (con (cF (.int 6)) (nil))))) (tupG [(nameG 3), (nameG 4)]))
    (seqS (setS 5 (fnB lenG (con (varF 3) (nil))))
    (seqS (setS 6 (tupE (con (cF (.str [98, 121])) (con (una negG (cF (.int 1))) (con (cF (.int 1)) (con (cF (.int 0)) (nil)))))))
    (seqS (setS 7 (ownE (con (varF 3) (con (varF 4) (con (bin mulG (tupE (con (varF 6) (nil))) (cF (.int 6))) (con (bin mulG (tupE (con (varF 6) (nil))) (cF (.int 7))) (con (lstE (con (varF 6) (nil))) (con (tupE (nil)) (con (cF .non) (con (cF (.str [])) (con (bin mulG (cF (.str [119])) (cF (.int 31))) (con (bin mulG (cF (.str [119])) (cF (.int 32))) (con (bin mulG (cF (.str [63])) (cF (.int 31))) (nil))))))))))))))
    (seqS (setS 7 (bin addO (varF 7) (lstE (con (cF (.str [87])) (con (cF (.str [119, 102, 32])) (con (cF (.int 5)) (con (varF 6) (con (tupE (con (cF (.str [98, 121])) (con (una negG (cF (.int 2))) (con (cF (.int 1)) (con (cF (.int 0)) (nil)))))) (con (tupE (con (cF (.str [98, 121])) (con (una negG (cF (.int 1))) (con (cF (.int 0)) (con (cF (.int 0)) (nil)))))) (con (tupE (con (cF (.str [98, 121])) (con (una negG (cF (.int 1))) (con (varF 5) (con (cF (.int 0)) (nil)))))) (nil)))))))))))
    (seqS (setS 7 (bin addO (varF 7) (lstE (con (tupE (con (cF (.str [98, 121])) (con (una negG (cF (.int 1))) (con (bin addG (varF 5) (cF (.int 1))) (con (cF (.int 0)) (nil)))))) (con (tupE (con (cF (.str [98, 121])) (con (una negG (cF (.int 1))) (con (cF (.int 1)) (con (una negG (cF (.int 1))) (nil)))))) (con (tupE (con (cF (.str [98, 121])) (con (una negG (cF (.int 1))) (con (cF (.int 1)) (con (bin subG (varF 5) (cF (.int 1))) (nil)))))) (con (tupE (con (cF (.str [98, 121])) (con (una negG (cF (.int 1))) (con (cF (.int 1)) (con (varF 5) (nil)))))) (nil))))))))
    (seqS (setS 7 (bin addO (varF 7) (lstE (con (tupE (con (cF (.str [98, 121])) (con (bin subG (varF 5) (cF (.int 2))) (con (cF (.int 1)) (con (bin subG (varF 5) (cF (.int 1))) (nil)))))) (con (tupE (con (cF (.str [98, 121])) (con (bin subG (varF 5) (cF (.int 1))) (con (cF (.int 1)) (con (varF 5) (nil)))))) (con (tupE (con (cF (.str [97, 116])) (con (una negG (cF (.int 1))) (con (cF (.int 1)) (con (cF (.int 0)) (nil)))))) (nil)))))))
    (seqS (setS 7 (bin addO (varF 7) (lstE (con (tupE (con (cF (.str [98, 121])) (con (una negG (cF (.int 1))) (con (cF (.bl true)) (con (cF (.int 0)) (nil)))))) (con (tupE (con (cF (.str [98, 121])) (con (una negG (cF (.int 1))) (con (cF (.int 1)) (nil))))) (con (fnB listF (con (varF 6) (nil))) (nil)))))))
    (seqS (forS (rng1F (con (cF (.int 7)) (nil))) (nameG 8) (l_law_k01_1))
    (forS (walkF (bin addG (varF 7) (lstE (con (callF 2 m_law_any (con (varF 1) (con (cF (.int 2)) (nil)))) (con (cF (.str [119, 102, 63])) (con (cF (.str [119, 102, 119])) (nil))))))) (nameG 9) (l_law_k01_2))))))))))
noncomputable def b_law_k01 : SF :=
    seqS (setS 1 (ownE (con (fnB listF (con (varF 0) (nil))) (con (cF (.int 0)) (con (cF (.int 0)) (nil))))))
    (seqS (forS (rng1F (con (cF (.int 5)) (nil))) (nameG 2) (l_law_k01_3))
    (retS (cF (.bl true))))
noncomputable def m_law_k01 : FF := fnF N_law_k01 1 b_law_k01
/-! due_day -/
def N_due_day : List Str := ["row", "start", "count", "left", "day"]
noncomputable def l_due_day_1 : SF :=
    seqS (ifS (tst (bin eqG (bin ixG (varF 0) (varF 4)) (cF (.str [119])))) (augS (fun i j => i - j) 3 (cF (.int 1))) (passS))
    (ifS (tst (bin eqG (varF 3) (cF (.int 0)))) (retS (varF 4)) (passS))
noncomputable def b_due_day : SF :=
    seqS (setS 3 (varF 2))
    (seqS (forS (rng2F (con (bin addG (varF 1) (cF (.int 1))) (con (fnB lenG (con (varF 0) (nil))) (nil)))) (nameG 4) (l_due_day_1))
    (retS (fnB lenG (con (varF 0) (nil)))))
noncomputable def m_due_day : FF := fnF N_due_day 3 b_due_day
/-! keeps -/
def N_keeps : List Str := ["row", "promise", "kind", "start", "count", "end", "due"]
noncomputable def b_keeps : SF :=
    seqS (asgS' (varF 1) (tupG [(nameG 2), (nameG 3), (nameG 4), (nameG 5)]))
    (seqS (setS 6 (callF 3 m_due_day (con (varF 0) (con (varF 3) (con (varF 4) (nil))))))
    (seqS (ifS (tst (bin eqG (varF 2) (cF (.str [98, 121])))) (retS (bin leG (varF 6) (varF 5))) (passS))
    (retS (iteE (tst (bin eqG (varF 2) (cF (.str [102, 114, 111, 109])))) (bin geG (varF 6) (varF 5)) (bin eqG (varF 6) (varF 5))))))
noncomputable def m_keeps : FF := fnF N_keeps 2 b_keeps
/-! law -/
def N_law_k02 : List Str := ["script", "tape", "turn", "row", "days", "ask", "start", "count", "end", "told", "due", "kind"]
noncomputable def l_law_k02_1 : SF :=
    seqS (setS 6 (bin subG (callF 2 m_law_draw (con (varF 1) (con (varF 4) (nil)))) (cF (.int 1))))
    (seqS (asgS' (tupE (con (bin addG (cF (.int 1)) (callF 2 m_law_draw (con (varF 1) (con (varF 4) (nil))))) (con (bin addG (bin addG (varF 6) (cF (.int 1))) (callF 2 m_law_draw (con (varF 1) (con (bin subG (bin subG (varF 4) (cF (.int 1))) (varF 6)) (nil))))) (nil)))) (tupG [(nameG 7), (nameG 8)]))
    (seqS (setS 9 (compF (walkF (tupE (con (cF (.str [111, 110])) (con (cF (.str [98, 121])) (con (cF (.str [102, 114, 111, 109])) (nil)))))) [11] (nameG 11) (yes) (callF 2 m_keeps (con (varF 3) (con (tupE (con (varF 11) (con (varF 6) (con (varF 7) (con (varF 8) (nil)))))) (nil))))))
    (seqS (setS 10 (callF 3 m_law_due (con (varF 3) (con (varF 6) (con (varF 7) (nil))))))
    (seqS (ifS (notT (tst (callF 2 m_law_like (con (varF 9) (con (lstE (con (bin eqG (varF 10) (varF 8)) (con (bin leG (varF 10) (varF 8)) (con (bin geG (varF 10) (varF 8)) (nil))))) (nil)))))) (retS (cF (.bl false))) (passS))
    (ifS (tst (bin neG (bin ixG (varF 9) (cF (.int 0))) (andE (bin ixG (varF 9) (cF (.int 1))) (bin ixG (varF 9) (cF (.int 2)))))) (retS (cF (.bl false))) (passS))))))
noncomputable def l_law_k02_2 : SF :=
    seqS (setS 3 (callF 2 m_law_row (con (varF 1) (con (bin addG (cF (.int 1)) (callF 2 m_law_draw (con (varF 1) (con (cF (.int 31)) (nil))))) (nil)))))
    (seqS (setS 4 (fnB lenG (con (varF 3) (nil))))
    (forS (rng1F (con (cF (.int 12)) (nil))) (nameG 5) (l_law_k02_1)))
noncomputable def b_law_k02 : SF :=
    seqS (setS 1 (ownE (con (fnB listF (con (varF 0) (nil))) (con (cF (.int 0)) (con (cF (.int 0)) (nil))))))
    (seqS (forS (rng1F (con (cF (.int 6)) (nil))) (nameG 2) (l_law_k02_2))
    (retS (andE (bin isNG (callF 2 m_keeps (con (cF (.str [102, 102])) (con (tupE (con (cF (.str [102, 114, 111, 109])) (con (una negG (cF (.int 1))) (con (cF (.int 1)) (con (cF (.int 1)) (nil)))))) (nil)))) (cF (.bl true))) (bin isNG (callF 2 m_keeps (con (cF (.str [102, 102])) (con (tupE (con (cF (.str [98, 121])) (con (una negG (cF (.int 1))) (con (cF (.int 1)) (con (cF (.int 1)) (nil)))))) (nil)))) (cF (.bl false))))))
noncomputable def m_law_k02 : FF := fnF N_law_k02 1 b_law_k02
/-! _law_keeps -/
def N_law_keeps : List Str := ["row", "promise", "kind", "start", "count", "end", "due"]
noncomputable def b_law_keeps : SF :=
    seqS (asgS' (varF 1) (tupG [(nameG 2), (nameG 3), (nameG 4), (nameG 5)]))
    (seqS (setS 6 (callF 3 m_law_due (con (varF 0) (con (varF 3) (con (varF 4) (nil))))))
    (retS (orE (bin eqG (varF 6) (varF 5)) (orE (andE (bin eqG (varF 2) (cF (.str [98, 121]))) (bin ltG (varF 6) (varF 5))) (andE (bin eqG (varF 2) (cF (.str [102, 114, 111, 109]))) (bin gtG (varF 6) (varF 5)))))))
noncomputable def m_law_keeps : FF := fnF N_law_keeps 2 b_law_keeps
/-! _law_fits -/
def N_law_fits : List Str := ["row", "known", "promises", "letter", "other", "promise"]
noncomputable def b_law_fits : SF :=
    seqS (ifS (tst (bin neG (compF (zipF (con (varF 0) (con (varF 1) (nil)))) [3, 4] (tupG [(nameG 3), (nameG 4)]) (tst (bin ninG (varF 4) (tupE (con (varF 3) (con (cF (.str [63])) (nil)))))) (cF (.int 1))) (lstE (nil)))) (retS (cF (.bl false))) (passS))
    (retS (bin eqG (compF (walkF (varF 2)) [5] (nameG 5) (notT (tst (callF 2 m_law_keeps (con (varF 0) (con (varF 5) (nil)))))) (varF 5)) (lstE (nil))))
noncomputable def m_law_fits : FF := fnF N_law_fits 3 b_law_fits
/-! _law_rows -/
def N_law_rows : List Str := ["known", "promises", "found", "letter", "longer", "row", "own"]
noncomputable def l_law_rows_1 : SF :=
    setS 4 (bin addG (varF 4) (compF (walkF (cF (.str [102, 119]))) [6] (nameG 6) (tst (bin inG (varF 3) (tupE (con (varF 6) (con (cF (.str [63])) (nil)))))) (bin addG (varF 5) (varF 6))))
noncomputable def l_law_rows_2 : SF :=
    seqS (setS 4 (lstE (nil)))
    (seqS (forS (walkF (varF 2)) (nameG 5) (l_law_rows_1))
    (setS 2 (varF 4)))
noncomputable def b_law_rows : SF :=
    seqS (setS 2 (lstE (con (cF (.str [])) (nil))))
    (seqS (forS (walkF (varF 0)) (nameG 3) (l_law_rows_2))
    (retS (compF (walkF (varF 2)) [5] (nameG 5) (tst (callF 3 m_law_fits (con (varF 5) (con (varF 0) (con (varF 1) (nil)))))) (varF 5))))
noncomputable def m_law_rows : FF := fnF N_law_rows 2 b_law_rows
/-! first_bounds -/
def N_first_bounds : List Str := ["known", "promises", "days", "table", "day", "letter", "kind", "start", "count", "end", "one", "other"]
noncomputable def l_first_bounds_1 : SF :=
    seqS (asgS' (fnB intOf (con (bin neG (varF 5) (cF (.str [102]))) (nil))) (setI (bin ixG (varF 3) (varF 4)) (bin addG (varF 4) (cF (.int 1)))))
    (asgS' (una negG (fnB intOf (con (bin eqG (varF 5) (cF (.str [119]))) (nil)))) (setI (bin ixG (varF 3) (bin addG (varF 4) (cF (.int 1)))) (varF 4)))
noncomputable def l_first_bounds_2 : SF :=
    seqS (ifS (tst (bin neG (varF 6) (cF (.str [102, 114, 111, 109])))) (asgS' (fnB minG (con (bin ixG (bin ixG (varF 3) (bin addG (varF 9) (cF (.int 1)))) (bin addG (varF 7) (cF (.int 1)))) (con (una negG (varF 8)) (nil)))) (setI (bin ixG (varF 3) (bin addG (varF 9) (cF (.int 1)))) (bin addG (varF 7) (cF (.int 1))))) (passS))
    (ifS (tst (bin neG (varF 6) (cF (.str [98, 121])))) (asgS' (fnB minG (con (bin ixG (bin ixG (varF 3) (bin addG (varF 7) (cF (.int 1)))) (varF 9)) (con (bin subG (varF 8) (cF (.int 1))) (nil)))) (setI (bin ixG (varF 3) (bin addG (varF 7) (cF (.int 1)))) (varF 9))) (passS))
noncomputable def b_first_bounds : SF :=
    seqS (setS 2 (fnB lenG (con (varF 0) (nil))))
    (seqS (setS 3 (compO (rng1F (con (bin addG (varF 2) (cF (.int 1))) (nil))) [10] (nameG 10) (yes) (compO (rng1F (con (bin addG (varF 2) (cF (.int 1))) (nil))) [11] (nameG 11) (yes) (iteE (tst (bin eqG (varF 10) (varF 11))) (cF (.int 0)) (cF (.int 99))))))
    (seqS (forS (enumF (con (varF 0) (nil))) (tupG [(nameG 4), (nameG 5)]) (l_first_bounds_1))
    (seqS (forS (walkF (varF 1)) (tupG [(nameG 6), (nameG 7), (nameG 8), (nameG 9)]) (l_first_bounds_2))
    (retS (varF 3)))))
noncomputable def m_first_bounds : FF := fnK N_first_bounds 2 b_first_bounds
/-! all_bounds -/
def N_all_bounds : List Str := ["known", "promises", "table", "size", "between", "one", "other", "way", "at"]
noncomputable def l_all_bounds_1 : SF :=
    seqS (setS 7 (bin addG (bin ixG (bin ixG (varF 2) (varF 5)) (varF 4)) (bin ixG (bin ixG (varF 2) (varF 4)) (varF 6))))
    (ifS (tst (bin ltG (varF 7) (bin ixG (bin ixG (varF 2) (varF 5)) (varF 6)))) (asgS' (varF 7) (setI (bin ixG (varF 2) (varF 5)) (varF 6))) (passS))
noncomputable def l_all_bounds_2 : SF :=
    forS (rng1F (con (varF 3) (nil))) (nameG 6) (l_all_bounds_1)
noncomputable def l_all_bounds_3 : SF :=
    forS (rng1F (con (varF 3) (nil))) (nameG 5) (l_all_bounds_2)
noncomputable def b_all_bounds : SF :=
    seqS (setS 2 (callF 2 m_first_bounds (con (varF 0) (con (varF 1) (nil)))))
    (seqS (setS 3 (fnB lenG (con (varF 2) (nil))))
    (seqS (forS (rng1F (con (varF 3) (nil))) (nameG 4) (l_all_bounds_3))
    (retS (iteE (tst (fnB allG (con (compF (rng1F (con (varF 3) (nil))) [8] (nameG 8) (yes) (bin geG (bin ixG (bin ixG (varF 2) (varF 8)) (varF 8)) (cF (.int 0)))) (nil)))) (varF 2) (cF .non)))))
noncomputable def m_all_bounds : FF := fnF N_all_bounds 2 b_all_bounds
/-! is_possible -/
def N_is_possible : List Str := ["known", "promises"]
noncomputable def b_is_possible : SF :=
    retS (bin isntG (callF 2 m_all_bounds (con (varF 0) (con (varF 1) (nil)))) (cF .non))
noncomputable def m_is_possible : FF := fnF N_is_possible 2 b_is_possible
/-! range_of -/
def N_range_of : List Str := ["table", "first", "last"]
noncomputable def b_range_of : SF :=
    retS (tupE (con (una negG (bin ixG (bin ixG (varF 0) (bin addG (varF 2) (cF (.int 1)))) (varF 1))) (con (bin ixG (bin ixG (varF 0) (varF 1)) (bin addG (varF 2) (cF (.int 1)))) (nil))))
noncomputable def m_range_of : FF := fnF N_range_of 3 b_range_of
/-! day_states -/
def N_day_states : List Str := ["known", "promises", "table", "found", "day", "low", "high"]
noncomputable def l_day_states_1 : SF :=
    seqS (asgS' (callF 3 m_range_of (con (varF 2) (con (varF 4) (con (varF 4) (nil))))) (tupG [(nameG 5), (nameG 6)]))
    (dropS (meB' isOwn appG (varF 3) (con (iteE (tst (bin ltG (varF 5) (varF 6))) (cF (.str [63])) (bin ixG (cF (.str [102, 119])) (varF 5))) (nil))))
noncomputable def b_day_states : SF :=
    seqS (setS 2 (callF 2 m_all_bounds (con (varF 0) (con (varF 1) (nil)))))
    (seqS (ifS (tst (bin isNG (varF 2) (cF .non))) (retS (cF .non)) (passS))
    (seqS (setS 3 (ownE (nil)))
    (seqS (forS (rng1F (con (fnB lenG (con (varF 0) (nil))) (nil))) (nameG 4) (l_day_states_1))
    (retS (meB' isStr joinG (cF (.str [])) (con (varF 3) (nil)))))))
noncomputable def m_day_states : FF := fnF N_day_states 2 b_day_states
/-! _law_states -/
def N_law_states : List Str := ["rows", "found", "day", "some", "row"]
noncomputable def l_law_states_1 : SF :=
    seqS (setS 3 (ssF (compF (walkF (varF 0)) [4] (nameG 4) (yes) (bin ixG (varF 4) (varF 2)))))
    (setS 1 (bin addG (varF 1) (iteE (tst (bin eqG (fnB lenG (con (varF 3) (nil))) (cF (.int 1)))) (bin ixG (varF 3) (cF (.int 0))) (cF (.str [63])))))
noncomputable def b_law_states : SF :=
    seqS (ifS (tst (bin eqG (varF 0) (lstE (nil)))) (retS (cF .non)) (passS))
    (seqS (setS 1 (cF (.str [])))
    (seqS (forS (rng1F (con (fnB lenG (con (bin ixG (varF 0) (cF (.int 0))) (nil))) (nil))) (nameG 2) (l_law_states_1))
    (retS (varF 1))))
noncomputable def m_law_states : FF := fnF N_law_states 1 b_law_states
/-! law -/
def N_law_k03 : List Str := ["script", "tape", "turn", "known", "promises", "rows"]
noncomputable def l_law_k03_1 : SF :=
    seqS (asgS' (callF 3 m_law_case (con (varF 1) (con (cF (.int 9)) (con (cF (.int 5)) (nil))))) (tupG [(nameG 3), (nameG 4)]))
    (seqS (setS 5 (callF 2 m_law_rows (con (varF 3) (con (varF 4) (nil)))))
    (seqS (ifS (notT (tst (callF 2 m_law_like (con (callF 2 m_is_possible (con (varF 3) (con (varF 4) (nil)))) (con (bin neG (varF 5) (lstE (nil))) (nil)))))) (retS (cF (.bl false))) (passS))
    (seqS (ifS (notT (tst (callF 2 m_law_like (con (callF 2 m_day_states (con (varF 3) (con (varF 4) (nil)))) (con (callF 1 m_law_states (con (varF 5) (nil))) (nil)))))) (retS (cF (.bl false))) (passS))
    (ifS (notT (tst (callF 2 m_law_like (con (callF 2 m_day_states (con (varF 3) (con (tupE (nil)) (nil)))) (con (varF 3) (nil)))))) (retS (cF (.bl false))) (passS)))))
noncomputable def b_law_k03 : SF :=
    seqS (setS 1 (ownE (con (fnB listF (con (varF 0) (nil))) (con (cF (.int 0)) (con (cF (.int 0)) (nil))))))
    (seqS (forS (rng1F (con (cF (.int 4)) (nil))) (nameG 2) (l_law_k03_1))
    (retS (andE (bin isNG (callF 2 m_is_possible (con (cF (.str [102])) (con (tupE (con (tupE (con (cF (.str [98, 121])) (con (una negG (cF (.int 1))) (con (cF (.int 1)) (con (cF (.int 0)) (nil)))))) (nil))) (nil)))) (cF (.bl false))) (bin eqG (callF 2 m_day_states (con (cF (.str [63])) (con (tupE (con (tupE (con (cF (.str [111, 110])) (con (una negG (cF (.int 1))) (con (cF (.int 1)) (con (cF (.int 0)) (nil)))))) (nil))) (nil)))) (cF (.str [119]))))))
noncomputable def m_law_k03 : FF := fnF N_law_k03 1 b_law_k03
/-! number_range -/
def N_number_range : List Str := ["known", "promises", "first", "last", "table"]
noncomputable def b_number_range : SF :=
    seqS (setS 4 (callF 2 m_all_bounds (con (varF 0) (con (varF 1) (nil)))))
    (retS (iteE (tst (bin isntG (varF 4) (cF .non))) (callF 3 m_range_of (con (varF 4) (con (varF 2) (con (varF 3) (nil))))) (cF .non)))
noncomputable def m_number_range : FF := fnF N_number_range 4 b_number_range
/-! law -/
def N_law_k04 : List Str := ["script", "tape", "turn", "known", "promises", "rows", "first", "last", "some", "due", "row"]
noncomputable def l_law_k04_1 : SF :=
    seqS (setS 8 (ssF (compF (walkF (varF 5)) [10] (nameG 10) (yes) (meB' isStr cntG (slF slG (varF 10) (parF (varF 6)) (parF (bin addG (varF 7) (cF (.int 1))))) (con (cF (.str [119])) (nil))))))
    (seqS (setS 9 (iteE (tst (bin neG (varF 8) (lstE (nil)))) (tupE (con (bin ixG (varF 8) (cF (.int 0))) (con (bin ixG (varF 8) (una negG (cF (.int 1)))) (nil)))) (cF .non)))
    (seqS (ifS (notT (tst (callF 2 m_law_like (con (callF 4 m_number_range (con (varF 3) (con (varF 4) (con (varF 6) (con (varF 7) (nil)))))) (con (varF 9) (nil)))))) (retS (cF (.bl false))) (passS))
    (ifS (andT (tst (bin neG (varF 8) (lstE (nil)))) (tst (bin neG (varF 8) (lrF (bin ixG (varF 8) (cF (.int 0))) (bin addG (bin ixG (varF 8) (una negG (cF (.int 1)))) (cF (.int 1))))))) (retS (cF (.bl false))) (passS))))
noncomputable def l_law_k04_2 : SF :=
    forS (rng2F (con (varF 6) (con (fnB lenG (con (varF 3) (nil))) (nil)))) (nameG 7) (l_law_k04_1)
noncomputable def l_law_k04_3 : SF :=
    seqS (asgS' (callF 3 m_law_case (con (varF 1) (con (cF (.int 8)) (con (cF (.int 5)) (nil))))) (tupG [(nameG 3), (nameG 4)]))
    (seqS (setS 5 (callF 2 m_law_rows (con (varF 3) (con (varF 4) (nil)))))
    (forS (rng1F (con (fnB lenG (con (varF 3) (nil))) (nil))) (nameG 6) (l_law_k04_2)))
noncomputable def b_law_k04 : SF :=
    seqS (setS 1 (ownE (con (fnB listF (con (varF 0) (nil))) (con (cF (.int 0)) (con (cF (.int 0)) (nil))))))
    (seqS (forS (rng1F (con (cF (.int 2)) (nil))) (nameG 2) (l_law_k04_3))
    (retS (andE (bin eqG (callF 4 m_number_range (con (cF (.str [63, 63, 63])) (con (tupE (nil)) (con (cF (.int 0)) (con (cF (.int 2)) (nil)))))) (tupE (con (cF (.int 0)) (con (cF (.int 3)) (nil))))) (bin eqG (callF 4 m_number_range (con (cF (.str [119, 102, 63])) (con (tupE (nil)) (con (cF (.int 1)) (con (cF (.int 1)) (nil)))))) (tupE (con (cF (.int 0)) (con (cF (.int 0)) (nil))))))))
noncomputable def m_law_k04 : FF := fnF N_law_k04 1 b_law_k04
/-! law -/
def N_law_k05 : List Str := ["script", "tape", "turn", "row", "known", "promises", "states", "day", "more", "new", "ask", "first", "last", "middle", "low", "high", "one", "two", "further", "less", "own", "letter", "state"]
noncomputable def l_law_k05_1 : SF :=
    ifS (orT (tst (bin isNG (varF 19) (cF .non))) (notT (chain3T leG leG leG (varF 14) (bin ixG (varF 19) (cF (.int 0))) (bin ixG (varF 19) (cF (.int 1))) (varF 15)))) (retS (cF (.bl false))) (passS)
noncomputable def l_law_k05_2 : SF :=
    seqS (setS 11 (callF 2 m_law_draw (con (varF 1) (con (bin subG (fnB lenG (con (varF 3) (nil))) (cF (.int 1))) (nil)))))
    (seqS (setS 12 (bin addG (bin addG (varF 11) (cF (.int 1))) (callF 2 m_law_draw (con (varF 1) (con (bin subG (bin subG (fnB lenG (con (varF 3) (nil))) (cF (.int 1))) (varF 11)) (nil))))))
    (seqS (setS 13 (bin addG (varF 11) (callF 2 m_law_draw (con (varF 1) (con (bin subG (varF 12) (varF 11)) (nil))))))
    (seqS (asgS' (callF 4 m_number_range (con (varF 4) (con (varF 5) (con (varF 11) (con (varF 12) (nil)))))) (tupG [(nameG 14), (nameG 15)]))
    (seqS (ifS (notT (tst (chain leG leG (varF 14) (meB' isStr cntG (slF slG (varF 3) (parF (varF 11)) (parF (bin addG (varF 12) (cF (.int 1))))) (con (cF (.str [119])) (nil))) (varF 15)))) (retS (cF (.bl false))) (passS))
    (seqS (parS 16 17 (con (callF 4 m_number_range (con (varF 4) (con (varF 5) (con (varF 11) (con (varF 13) (nil)))))) (con (callF 4 m_number_range (con (varF 4) (con (varF 5) (con (bin addG (varF 13) (cF (.int 1))) (con (varF 12) (nil)))))) (nil))))
    (seqS (ifS (orT (notT (tst (bin leG (bin addG (bin ixG (varF 16) (cF (.int 0))) (bin ixG (varF 17) (cF (.int 0)))) (varF 14)))) (notT (tst (bin leG (varF 15) (bin addG (bin ixG (varF 16) (cF (.int 1))) (bin ixG (varF 17) (cF (.int 1)))))))) (retS (cF (.bl false))) (passS))
    (seqS (setS 18 (bin addG (varF 5) (fnB tupleG (con (varF 9) (nil)))))
    (forS (walkF (tupE (con (callF 4 m_number_range (con (varF 8) (con (varF 5) (con (varF 11) (con (varF 12) (nil)))))) (con (callF 4 m_number_range (con (varF 4) (con (varF 18) (con (varF 11) (con (varF 12) (nil)))))) (nil))))) (nameG 19) (l_law_k05_1)))))))))
noncomputable def l_law_k05_3 : SF :=
    seqS (setS 3 (callF 2 m_law_row (con (varF 1) (con (bin addG (cF (.int 12)) (callF 2 m_law_draw (con (varF 1) (con (cF (.int 20)) (nil))))) (nil)))))
    (seqS (setS 4 (callF 2 m_law_masked (con (varF 1) (con (varF 3) (nil)))))
    (seqS (setS 5 (fnB tupleG (con (compF (walkF (callF 3 m_law_promises (con (varF 1) (con (varF 3) (con (cF (.int 5)) (nil)))))) [20] (nameG 20) (tst (callF 2 m_law_keeps (con (varF 3) (con (varF 20) (nil))))) (varF 20)) (nil))))
    (seqS (setS 6 (callF 2 m_day_states (con (varF 4) (con (varF 5) (nil)))))
    (seqS (ifS (tst (bin isNG (varF 6) (cF .non))) (retS (cF (.bl false))) (passS))
    (seqS (ifS (tst (bin neG (compF (zipF (con (varF 3) (con (varF 6) (nil)))) [21, 22] (tupG [(nameG 21), (nameG 22)]) (tst (bin ninG (varF 22) (tupE (con (varF 21) (con (cF (.str [63])) (nil)))))) (cF (.int 1))) (lstE (nil)))) (retS (cF (.bl false))) (passS))
    (seqS (setS 7 (callF 2 m_law_draw (con (varF 1) (con (fnB lenG (con (varF 3) (nil))) (nil)))))
    (seqS (setS 8 (bin addG (bin addG (slF slG (varF 4) noP (parF (varF 7))) (bin ixG (varF 3) (varF 7))) (slF slG (varF 4) (parF (bin addG (varF 7) (cF (.int 1)))) noP)))
    (seqS (setS 9 (compF (walkF (lstE (con (callF 2 m_law_promise (con (varF 1) (con (varF 3) (nil)))) (nil)))) [20] (nameG 20) (tst (callF 2 m_law_keeps (con (varF 3) (con (varF 20) (nil))))) (varF 20)))
    (forS (rng1F (con (cF (.int 4)) (nil))) (nameG 10) (l_law_k05_2))))))))))
noncomputable def b_law_k05 : SF :=
    seqS (setS 1 (ownE (con (fnB listF (con (varF 0) (nil))) (con (cF (.int 0)) (con (cF (.int 0)) (nil))))))
    (seqS (forS (rng1F (con (cF (.int 3)) (nil))) (nameG 2) (l_law_k05_3))
    (retS (cF (.bl true))))
noncomputable def m_law_k05 : FF := fnF N_law_k05 1 b_law_k05
/-! row_of -/
def N_row_of : List Str := ["counts", "one", "other"]
noncomputable def b_row_of : SF :=
    retS (meB' isStr joinG (cF (.str [])) (con (compF (zipF (con (varF 0) (con (slF slG (varF 0) (parF (cF (.int 1))) noP) (nil)))) [1, 2] (tupG [(nameG 1), (nameG 2)]) (yes) (iteE (tst (bin gtG (varF 2) (varF 1))) (cF (.str [119])) (cF (.str [102])))) (nil)))
noncomputable def m_row_of : FF := fnF N_row_of 1 b_row_of
/-! least_row -/
def N_least_row : List Str := ["known", "promises", "table", "row"]
noncomputable def b_least_row : SF :=
    seqS (setS 2 (callF 2 m_all_bounds (con (varF 0) (con (varF 1) (nil)))))
    (retS (iteE (tst (bin isntG (varF 2) (cF .non))) (callF 1 m_row_of (con (compF (walkF (varF 2)) [3] (nameG 3) (yes) (una negG (bin ixG (varF 3) (cF (.int 0))))) (nil))) (cF .non)))
noncomputable def m_least_row : FF := fnF N_least_row 2 b_least_row
/-! greatest_row -/
def N_greatest_row : List Str := ["known", "promises", "table"]
noncomputable def b_greatest_row : SF :=
    seqS (setS 2 (callF 2 m_all_bounds (con (varF 0) (con (varF 1) (nil)))))
    (retS (iteE (tst (bin isntG (varF 2) (cF .non))) (callF 1 m_row_of (con (bin ixG (varF 2) (cF (.int 0))) (nil))) (cF .non)))
noncomputable def m_greatest_row : FF := fnF N_greatest_row 2 b_greatest_row
/-! fewest_working -/
def N_fewest_working : List Str := ["known", "promises", "table"]
noncomputable def b_fewest_working : SF :=
    seqS (setS 2 (callF 2 m_all_bounds (con (varF 0) (con (varF 1) (nil)))))
    (retS (iteE (tst (bin isntG (varF 2) (cF .non))) (una negG (bin ixG (bin ixG (varF 2) (una negG (cF (.int 1)))) (cF (.int 0)))) (cF .non)))
noncomputable def m_fewest_working : FF := fnF N_fewest_working 2 b_fewest_working
/-! most_working -/
def N_most_working : List Str := ["known", "promises", "table"]
noncomputable def b_most_working : SF :=
    seqS (setS 2 (callF 2 m_all_bounds (con (varF 0) (con (varF 1) (nil)))))
    (retS (iteE (tst (bin isntG (varF 2) (cF .non))) (bin ixG (bin ixG (varF 2) (cF (.int 0))) (una negG (cF (.int 1)))) (cF .non)))
noncomputable def m_most_working : FF := fnF N_most_working 2 b_most_working
/-! _law_up_to -/
def N_law_up_to : List Str := ["row", "day"]
noncomputable def b_law_up_to : SF :=
    retS (compF (rng1F (con (fnB lenG (con (varF 0) (nil))) (nil))) [1] (nameG 1) (yes) (meB' isStr cntG (slF slG (varF 0) noP (parF (bin addG (varF 1) (cF (.int 1))))) (con (cF (.str [119])) (nil))))
noncomputable def m_law_up_to : FF := fnF N_law_up_to 1 b_law_up_to
/-! law -/
def N_law_k06 : List Str := ["script", "tape", "turn", "known", "promises", "rows", "low", "high", "few", "many", "counts", "least", "most", "row", "held", "hidden", "less", "own", "more", "day"]
noncomputable def l_law_k06_1 : SF :=
    ifS (notT (tst (chain leG leG (varF 16) (varF 17) (varF 18)))) (retS (cF (.bl false))) (passS)
noncomputable def l_law_k06_2 : SF :=
    seqS (asgS' (callF 3 m_law_case (con (varF 1) (con (cF (.int 9)) (con (cF (.int 5)) (nil))))) (tupG [(nameG 3), (nameG 4)]))
    (seqS (setS 5 (callF 2 m_law_rows (con (varF 3) (con (varF 4) (nil)))))
    (seqS (parS 6 7 (con (callF 2 m_least_row (con (varF 3) (con (varF 4) (nil)))) (con (callF 2 m_greatest_row (con (varF 3) (con (varF 4) (nil)))) (nil))))
    (seqS (parS 8 9 (con (callF 2 m_fewest_working (con (varF 3) (con (varF 4) (nil)))) (con (callF 2 m_most_working (con (varF 3) (con (varF 4) (nil)))) (nil))))
    (seqS (ifS (tst (bin eqG (varF 5) (lstE (nil)))) (ifS (tst (bin neG (lstE (con (varF 6) (con (varF 7) (con (varF 8) (con (varF 9) (nil)))))) (bin mulG (lstE (con (cF .non) (nil))) (cF (.int 4))))) (retS (cF (.bl false))) (passS)) (seqS (ifS (orT (tst (bin ninG (varF 6) (varF 5))) (tst (bin ninG (varF 7) (varF 5)))) (retS (cF (.bl false))) (passS))
    (seqS (setS 10 (compF (walkF (varF 5)) [13] (nameG 13) (yes) (callF 1 m_law_up_to (con (varF 13) (nil)))))
    (seqS (setS 11 (compF (rng1F (con (fnB lenG (con (varF 3) (nil))) (nil))) [19] (nameG 19) (yes) (fnB minG (con (compF (walkF (varF 10)) [17] (nameG 17) (yes) (bin ixG (varF 17) (varF 19))) (nil)))))
    (seqS (setS 12 (compF (rng1F (con (fnB lenG (con (varF 3) (nil))) (nil))) [19] (nameG 19) (yes) (fnB maxG (con (compF (walkF (varF 10)) [17] (nameG 17) (yes) (bin ixG (varF 17) (varF 19))) (nil)))))
    (seqS (ifS (orT (tst (bin neG (callF 1 m_law_up_to (con (varF 6) (nil))) (varF 11))) (tst (bin neG (callF 1 m_law_up_to (con (varF 7) (nil))) (varF 12)))) (retS (cF (.bl false))) (passS))
    (ifS (notT (tst (callF 2 m_law_like (con (lstE (con (varF 8) (con (varF 9) (nil)))) (con (lstE (con (bin ixG (varF 11) (una negG (cF (.int 1)))) (con (bin ixG (varF 12) (una negG (cF (.int 1)))) (nil)))) (nil)))))) (retS (cF (.bl false))) (passS))))))))
    (seqS (setS 13 (callF 2 m_law_row (con (varF 1) (con (bin addG (cF (.int 10)) (callF 2 m_law_draw (con (varF 1) (con (cF (.int 22)) (nil))))) (nil)))))
    (seqS (setS 14 (fnB tupleG (con (compF (walkF (callF 3 m_law_promises (con (varF 1) (con (varF 13) (con (cF (.int 5)) (nil)))))) [17] (nameG 17) (tst (callF 2 m_law_keeps (con (varF 13) (con (varF 17) (nil))))) (varF 17)) (nil))))
    (seqS (setS 15 (callF 2 m_law_masked (con (varF 1) (con (varF 13) (nil)))))
    (seqS (parS 6 7 (con (callF 2 m_least_row (con (varF 15) (con (varF 14) (nil)))) (con (callF 2 m_greatest_row (con (varF 15) (con (varF 14) (nil)))) (nil))))
    (seqS (ifS (orT (notT (tst (callF 3 m_law_fits (con (varF 6) (con (varF 15) (con (varF 14) (nil))))))) (notT (tst (callF 3 m_law_fits (con (varF 7) (con (varF 15) (con (varF 14) (nil)))))))) (retS (cF (.bl false))) (passS))
    (forS (zip3F (con (callF 1 m_law_up_to (con (varF 6) (nil))) (con (callF 1 m_law_up_to (con (varF 13) (nil))) (con (callF 1 m_law_up_to (con (varF 7) (nil))) (nil))))) (tupG [(nameG 16), (nameG 17), (nameG 18)]) (l_law_k06_1)))))))))))
noncomputable def b_law_k06 : SF :=
    seqS (setS 1 (ownE (con (fnB listF (con (varF 0) (nil))) (con (cF (.int 0)) (con (cF (.int 0)) (nil))))))
    (seqS (forS (rng1F (con (cF (.int 4)) (nil))) (nameG 2) (l_law_k06_2))
    (retS (cF (.bl true))))
noncomputable def m_law_k06 : FF := fnF N_law_k06 1 b_law_k06
/-! follows -/
def N_follows : List Str := ["known", "promises", "promise", "table", "kind", "start", "count", "end", "early", "late"]
noncomputable def b_follows : SF :=
    seqS (setS 3 (callF 2 m_all_bounds (con (varF 0) (con (varF 1) (nil)))))
    (seqS (ifS (tst (bin isNG (varF 3) (cF .non))) (retS (cF (.bl true))) (passS))
    (seqS (asgS' (varF 2) (tupG [(nameG 4), (nameG 5), (nameG 6), (nameG 7)]))
    (seqS (setS 8 (bin geG (una negG (bin ixG (bin ixG (varF 3) (bin addG (varF 7) (cF (.int 1)))) (bin addG (varF 5) (cF (.int 1))))) (varF 6)))
    (seqS (setS 9 (bin ltG (bin ixG (bin ixG (varF 3) (bin addG (varF 5) (cF (.int 1)))) (varF 7)) (varF 6)))
    (seqS (ifS (tst (bin eqG (varF 4) (cF (.str [111, 110])))) (retS (andE (varF 8) (varF 9))) (passS))
    (retS (iteE (tst (bin eqG (varF 4) (cF (.str [98, 121])))) (varF 8) (varF 9))))))))
noncomputable def m_follows : FF := fnF N_follows 3 b_follows
/-! without -/
def N_without : List Str := ["promises", "index"]
noncomputable def b_without : SF :=
    retS (bin addG (slF slG (varF 0) noP (parF (varF 1))) (slF slG (varF 0) (parF (bin addG (varF 1) (cF (.int 1)))) noP))
noncomputable def m_without : FF := fnF N_without 2 b_without
/-! needless -/
def N_needless : List Str := ["known", "promises", "index", "promise"]
noncomputable def b_needless : SF :=
    retS (compO (enumF (con (varF 1) (nil))) [2, 3] (tupG [(nameG 2), (nameG 3)]) (tst (callF 3 m_follows (con (varF 0) (con (callF 2 m_without (con (varF 1) (con (varF 2) (nil)))) (con (varF 3) (nil)))))) (varF 2))
noncomputable def m_needless : FF := fnK N_needless 2 b_needless
/-! law -/
def N_law_k07 : List Str := ["script", "tape", "turn", "known", "promises", "rows", "ask", "base", "kind", "start", "count", "end", "told", "due", "own", "index", "promise", "others", "row"]
noncomputable def l_law_k07_1 : SF :=
    dropS (meB' isOwn appG (varF 13) (con (bin eqG (compF (walkF (varF 5)) [18] (nameG 18) (notT (tst (callF 2 m_law_keeps (con (varF 18) (con (tupE (con (varF 14) (con (varF 9) (con (varF 10) (con (varF 11) (nil)))))) (nil)))))) (varF 18)) (lstE (nil))) (nil)))
noncomputable def l_law_k07_2 : SF :=
    seqS (setS 7 (iteE (tst (bin neG (varF 5) (lstE (nil)))) (bin ixG (varF 5) (callF 2 m_law_draw (con (varF 1) (con (fnB lenG (con (varF 5) (nil))) (nil))))) (callF 2 m_law_row (con (varF 1) (con (fnB lenG (con (varF 3) (nil))) (nil))))))
    (seqS (asgS' (callF 2 m_law_promise (con (varF 1) (con (varF 7) (nil)))) (tupG [(nameG 8), (nameG 9), (nameG 10), (nameG 11)]))
    (seqS (setS 12 (compF (walkF (tupE (con (cF (.str [111, 110])) (con (cF (.str [98, 121])) (con (cF (.str [102, 114, 111, 109])) (nil)))))) [14] (nameG 14) (yes) (callF 3 m_follows (con (varF 3) (con (varF 4) (con (tupE (con (varF 14) (con (varF 9) (con (varF 10) (con (varF 11) (nil)))))) (nil)))))))
    (seqS (setS 13 (ownE (nil)))
    (seqS (forS (walkF (tupE (con (cF (.str [111, 110])) (con (cF (.str [98, 121])) (con (cF (.str [102, 114, 111, 109])) (nil)))))) (nameG 14) (l_law_k07_1))
    (ifS (orT (notT (tst (callF 2 m_law_like (con (varF 12) (con (varF 13) (nil)))))) (tst (bin neG (bin ixG (varF 12) (cF (.int 0))) (andE (bin ixG (varF 12) (cF (.int 1))) (bin ixG (varF 12) (cF (.int 2))))))) (retS (cF (.bl false))) (passS))))))
noncomputable def l_law_k07_3 : SF :=
    seqS (setS 17 (bin addG (slF slG (varF 4) noP (parF (varF 15))) (slF slG (varF 4) (parF (bin addG (varF 15) (cF (.int 1)))) noP)))
    (ifS (tst (bin eqG (compF (walkF (callF 2 m_law_rows (con (varF 3) (con (varF 17) (nil))))) [18] (nameG 18) (notT (tst (callF 2 m_law_keeps (con (varF 18) (con (varF 16) (nil)))))) (varF 18)) (lstE (nil)))) (dropS (meB' isOwn appG (varF 13) (con (varF 15) (nil)))) (passS))
noncomputable def l_law_k07_4 : SF :=
    seqS (asgS' (callF 3 m_law_case (con (varF 1) (con (cF (.int 8)) (con (cF (.int 4)) (nil))))) (tupG [(nameG 3), (nameG 4)]))
    (seqS (setS 5 (callF 2 m_law_rows (con (varF 3) (con (varF 4) (nil)))))
    (seqS (forS (rng1F (con (cF (.int 4)) (nil))) (nameG 6) (l_law_k07_2))
    (seqS (setS 13 (ownE (nil)))
    (seqS (forS (enumF (con (varF 4) (nil))) (tupG [(nameG 15), (nameG 16)]) (l_law_k07_3))
    (seqS (setS 12 (callF 2 m_needless (con (varF 3) (con (varF 4) (nil)))))
    (seqS (ifS (notT (tst (callF 2 m_law_like (con (varF 12) (con (varF 13) (nil)))))) (retS (cF (.bl false))) (passS))
    (seqS (dropS (meB' isOwn appG (varF 12) (con (cF .non) (nil))))
    (ifS (tst (bin neG (callF 2 m_needless (con (varF 3) (con (varF 4) (nil)))) (varF 13))) (retS (cF (.bl false))) (passS)))))))))
noncomputable def b_law_k07 : SF :=
    seqS (setS 1 (ownE (con (fnB listF (con (varF 0) (nil))) (con (cF (.int 0)) (con (cF (.int 0)) (nil))))))
    (seqS (forS (rng1F (con (cF (.int 3)) (nil))) (nameG 2) (l_law_k07_4))
    (retS (bin eqG (callF 2 m_needless (con (cF (.str [63, 63, 63])) (con (bin mulG (tupE (con (tupE (con (cF (.str [98, 121])) (con (una negG (cF (.int 1))) (con (cF (.int 1)) (con (cF (.int 2)) (nil)))))) (nil))) (cF (.int 2))) (nil)))) (lstE (con (cF (.int 0)) (con (cF (.int 1)) (nil)))))))
noncomputable def m_law_k07 : FF := fnF N_law_k07 1 b_law_k07
/-! reason -/
def N_reason : List Str := ["known", "promises", "groups", "index", "best", "group"]
noncomputable def l_reason_1 : SF :=
    dropS (meB' isOwn extG (varF 2) (con (compOw (varF 2) [5] (nameG 5) (yes) (tupE (starF (varF 5) (con (varF 3) (nil))))) (nil)))
noncomputable def l_reason_2 : SF :=
    ifS (orT (tst (bin isNG (varF 4) (cF .non))) (tst (bin ltG (fnB lenG (con (varF 5) (nil))) (fnB lenG (con (varF 4) (nil)))))) (ifS (notT (tst (callF 2 m_is_possible (con (varF 0) (con (fnB tupleG (con (compF (walkF (varF 5)) [3] (nameG 3) (yes) (bin ixG (varF 1) (varF 3))) (nil))) (nil)))))) (setS 4 (varF 5)) (passS)) (passS)
noncomputable def b_reason : SF :=
    seqS (ifS (tst (callF 2 m_is_possible (con (varF 0) (con (varF 1) (nil))))) (retS (cF .non)) (passS))
    (seqS (setS 2 (ownE (con (tupE (nil)) (nil))))
    (seqS (forS (rng1F (con (fnB lenG (con (varF 1) (nil))) (nil))) (nameG 3) (l_reason_1))
    (seqS (setS 4 (cF .non))
    (seqS (forOS (varF 2) (nameG 5) (l_reason_2))
    (retS (varF 4))))))
noncomputable def m_reason : FF := fnF N_reason 2 b_reason
/-! law -/
def N_law_k08 : List Str := ["script", "tape", "turn", "row", "known", "promises", "told", "groups", "index", "bad", "group"]
noncomputable def l_law_k08_1 : SF :=
    setS 7 (bin addG (varF 7) (compF (walkF (varF 7)) [10] (nameG 10) (yes) (bin addG (varF 10) (tupE (con (varF 8) (nil))))))
noncomputable def l_law_k08_2 : SF :=
    ifS (tst (bin eqG (callF 2 m_law_rows (con (varF 4) (con (fnB tupleG (con (compF (walkF (varF 10)) [8] (nameG 8) (yes) (bin ixG (varF 5) (varF 8))) (nil))) (nil)))) (lstE (nil)))) (dropS (meB' isOwn appG (varF 9) (con (varF 10) (nil)))) (passS)
noncomputable def l_law_k08_3 : SF :=
    seqS (setS 3 (callF 2 m_law_row (con (varF 1) (con (bin addG (cF (.int 2)) (callF 2 m_law_draw (con (varF 1) (con (cF (.int 7)) (nil))))) (nil)))))
    (seqS (setS 4 (callF 2 m_law_masked (con (varF 1) (con (varF 3) (nil)))))
    (seqS (setS 5 (bin addG (callF 3 m_law_promises (con (varF 1) (con (varF 3) (con (cF (.int 3)) (nil))))) (callF 3 m_law_promises (con (varF 1) (con (callF 2 m_law_row (con (varF 1) (con (fnB lenG (con (varF 3) (nil))) (nil)))) (con (cF (.int 2)) (nil)))))))
    (seqS (setS 6 (callF 2 m_reason (con (varF 4) (con (varF 5) (nil)))))
    (seqS (setS 7 (lstE (con (tupE (nil)) (nil))))
    (seqS (forS (rng1F (con (fnB lenG (con (varF 5) (nil))) (nil))) (nameG 8) (l_law_k08_1))
    (seqS (setS 9 (ownE (nil)))
    (seqS (forS (walkF (varF 7)) (nameG 10) (l_law_k08_2))
    (seqS (ifS (tst (bin neG (bin isNG (varF 6) (cF .non)) (bin eqG (varF 9) (lstE (nil))))) (retS (cF (.bl false))) (passS))
    (ifS (andT (tst (bin isntG (varF 6) (cF .non))) (orT (tst (bin ninG (varF 6) (varF 9))) (tst (bin neG (fnB lenG (con (varF 6) (nil))) (fnB minG (con (compOw (varF 9) [10] (nameG 10) (yes) (fnB lenG (con (varF 10) (nil)))) (nil))))))) (retS (cF (.bl false))) (passS))))))))))
noncomputable def b_law_k08 : SF :=
    seqS (setS 1 (ownE (con (fnB listF (con (varF 0) (nil))) (con (cF (.int 0)) (con (cF (.int 0)) (nil))))))
    (seqS (forS (rng1F (con (cF (.int 4)) (nil))) (nameG 2) (l_law_k08_3))
    (retS (andE (bin isNG (callF 2 m_reason (con (cF (.str [63])) (con (tupE (nil)) (nil)))) (cF .non)) (bin eqG (callF 2 m_reason (con (cF (.str [102])) (con (tupE (con (tupE (con (cF (.str [98, 121])) (con (una negG (cF (.int 1))) (con (cF (.int 1)) (con (cF (.int 0)) (nil)))))) (nil))) (nil)))) (tupE (con (cF (.int 0)) (nil)))))))
noncomputable def m_law_k08 : FF := fnF N_law_k08 1 b_law_k08
/-! possible_ends -/
def N_possible_ends : List Str := ["known", "promises", "start", "count", "found", "end"]
noncomputable def l_possible_ends_1 : SF :=
    ifS (tst (callF 2 m_is_possible (con (varF 0) (con (tupE (starF (varF 1) (con (tupE (con (cF (.str [111, 110])) (con (varF 2) (con (varF 3) (con (varF 5) (nil)))))) (nil)))) (nil))))) (dropS (meB' isOwn appG (varF 4) (con (varF 5) (nil)))) (passS)
noncomputable def b_possible_ends : SF :=
    seqS (setS 4 (ownE (nil)))
    (seqS (forS (rng2F (con (bin addG (varF 2) (cF (.int 1))) (con (fnB lenG (con (varF 0) (nil))) (nil)))) (nameG 5) (l_possible_ends_1))
    (retS (varF 4)))
noncomputable def m_possible_ends : FF := fnF N_possible_ends 4 b_possible_ends
/-! law -/
def N_law_k09 : List Str := ["script", "tape", "turn", "known", "promises", "rows", "ask", "start", "count", "due", "told", "late", "row", "day"]
noncomputable def l_law_k09_1 : SF :=
    seqS (asgS' (tupE (con (bin subG (callF 2 m_law_draw (con (varF 1) (con (fnB lenG (con (varF 3) (nil))) (nil)))) (cF (.int 1))) (con (bin addG (cF (.int 1)) (callF 2 m_law_draw (con (varF 1) (con (fnB lenG (con (varF 3) (nil))) (nil))))) (nil)))) (tupG [(nameG 7), (nameG 8)]))
    (seqS (setS 9 (ssF (compF (walkF (varF 5)) [12] (nameG 12) (yes) (callF 3 m_law_due (con (varF 12) (con (varF 7) (con (varF 8) (nil))))))))
    (seqS (setS 9 (compO (walkF (varF 9)) [13] (nameG 13) (tst (bin ltG (varF 13) (fnB lenG (con (varF 3) (nil))))) (varF 13)))
    (seqS (setS 10 (callF 4 m_possible_ends (con (varF 3) (con (varF 4) (con (varF 7) (con (varF 8) (nil)))))))
    (seqS (ifS (orT (notT (tst (callF 2 m_law_like (con (varF 10) (con (varF 9) (nil)))))) (tst (bin neG (compF (walkF (varF 10)) [13] (nameG 13) (tst (bin eqG (bin ixG (varF 3) (varF 13)) (cF (.str [102])))) (varF 13)) (lstE (nil))))) (retS (cF (.bl false))) (passS))
    (seqS (setS 11 (compF (walkF (varF 5)) [12] (nameG 12) (tst (bin eqG (callF 3 m_law_due (con (varF 12) (con (varF 7) (con (varF 8) (nil))))) (fnB lenG (con (varF 12) (nil))))) (varF 12)))
    (ifS (andT (tst (bin eqG (fnB lenG (con (varF 10) (nil))) (cF (.int 1)))) (tst (bin eqG (varF 11) (lstE (nil))))) (ifS (tst (bin isntG (callF 3 m_follows (con (varF 3) (con (varF 4) (con (tupE (con (cF (.str [111, 110])) (con (varF 7) (con (varF 8) (con (bin ixG (varF 10) (cF (.int 0))) (nil)))))) (nil))))) (cF (.bl true)))) (retS (cF (.bl false))) (passS)) (passS)))))))
noncomputable def l_law_k09_2 : SF :=
    seqS (asgS' (callF 3 m_law_case (con (varF 1) (con (cF (.int 8)) (con (cF (.int 4)) (nil))))) (tupG [(nameG 3), (nameG 4)]))
    (seqS (setS 5 (callF 2 m_law_rows (con (varF 3) (con (varF 4) (nil)))))
    (forS (rng1F (con (cF (.int 4)) (nil))) (nameG 6) (l_law_k09_1)))
noncomputable def b_law_k09 : SF :=
    seqS (setS 1 (ownE (con (fnB listF (con (varF 0) (nil))) (con (cF (.int 0)) (con (cF (.int 0)) (nil))))))
    (seqS (forS (rng1F (con (cF (.int 4)) (nil))) (nameG 2) (l_law_k09_2))
    (retS (andE (bin eqG (callF 4 m_possible_ends (con (cF (.str [119, 63, 102])) (con (tupE (nil)) (con (una negG (cF (.int 1))) (con (cF (.int 2)) (nil)))))) (lstE (con (cF (.int 1)) (nil)))) (bin eqG (callF 4 m_possible_ends (con (cF (.str [102])) (con (tupE (nil)) (con (una negG (cF (.int 1))) (con (cF (.int 1)) (nil)))))) (lstE (nil))))))
noncomputable def m_law_k09 : FF := fnF N_law_k09 1 b_law_k09
/-! started -/
def N_started : List Str := ["promises", "day", "left", "found", "promise", "own", "kind", "start", "count", "end"]
noncomputable def l_started_1 : SF :=
    seqS (asgS' (varF 4) (tupG [(nameG 6), (nameG 7), (nameG 8), (nameG 9)]))
    (seqS (ifS (tst (bin eqG (bin addG (varF 7) (cF (.int 1))) (varF 1))) (setS 5 (varF 8)) (passS))
    (seqS (ifS (andT (tst (bin isntG (varF 5) (cF .non))) (andT (tst (bin neG (varF 6) (cF (.str [98, 121])))) (tst (bin ltG (varF 5) (cF (.int 1)))))) (retS (cF .non)) (passS))
    (dropS (meB' isOwn appG (varF 3) (con (varF 5) (nil))))))
noncomputable def b_started : SF :=
    seqS (setS 3 (ownE (nil)))
    (seqS (forS (zipF (con (varF 0) (con (varF 2) (nil)))) (tupG [(nameG 4), (nameG 5)]) (l_started_1))
    (retS (fnB tupleG (con (varF 3) (nil)))))
noncomputable def m_started : FF := fnF N_started 3 b_started
/-! ended -/
def N_ended : List Str := ["promises", "day", "letter", "left", "found", "promise", "own", "kind", "start", "count", "end"]
noncomputable def l_ended_1 : SF :=
    seqS (asgS' (varF 5) (tupG [(nameG 7), (nameG 8), (nameG 9), (nameG 10)]))
    (seqS (ifS (tst (bin isntG (varF 6) (cF .non))) (seqS (setS 6 (fnB maxG (con (cF (.int 0)) (con (bin subG (varF 6) (fnB intOf (con (bin eqG (varF 2) (cF (.str [119]))) (nil)))) (nil)))))
    (ifS (tst (bin eqG (varF 1) (varF 10))) (seqS (ifS (andT (tst (bin neG (varF 7) (cF (.str [102, 114, 111, 109])))) (tst (bin gtG (varF 6) (cF (.int 0))))) (retS (cF .non)) (passS))
    (setS 6 (cF .non))) (passS))) (passS))
    (dropS (meB' isOwn appG (varF 4) (con (varF 6) (nil)))))
noncomputable def b_ended : SF :=
    seqS (setS 4 (ownE (nil)))
    (seqS (forS (zipF (con (varF 0) (con (varF 3) (nil)))) (tupG [(nameG 5), (nameG 6)]) (l_ended_1))
    (retS (fnB tupleG (con (varF 4) (nil)))))
noncomputable def m_ended : FF := fnF N_ended 4 b_ended
/-! Table.steps -/
def N_Table_steps : List Str := ["self", "day", "left", "here", "found", "letter", "later"]
noncomputable def l_Table_steps_1 : SF :=
    ifS (tst (bin inG (bin ixG (fldF 0 0 (varF 0)) (varF 1)) (tupE (con (varF 5) (con (cF (.str [63])) (nil)))))) (seqS (setS 6 (callF 4 m_ended (con (fldF 0 1 (varF 0)) (con (varF 1) (con (varF 5) (con (varF 3) (nil)))))))
    (ifS (tst (bin isntG (varF 6) (cF .non))) (dropS (meB' isOwn appG (varF 4) (con (tupE (con (varF 5) (con (varF 6) (nil)))) (nil)))) (passS))) (passS)
noncomputable def b_Table_steps : SF :=
    seqS (setS 3 (callF 3 m_started (con (fldF 0 1 (varF 0)) (con (varF 1) (con (varF 2) (nil))))))
    (seqS (setS 4 (ownE (nil)))
    (seqS (forS (walkF (iteE (tst (bin isntG (varF 3) (cF .non))) (cF (.str [102, 119])) (cF (.str [])))) (nameG 5) (l_Table_steps_1))
    (retS (varF 4))))
noncomputable def m_Table_steps : FF := fnF N_Table_steps 3 b_Table_steps
/-! Table.count -/
def N_Table_count : List Str := ["self", "day", "left", "total", "letter", "later"]
noncomputable def l_Table_count_1 (R : FF) : SF :=
    setS 3 (bin addG (varF 3) (methF 0 3 R (varF 0) (con (bin addG (varF 1) (cF (.int 1))) (con (varF 5) (nil)))))
noncomputable def b_Table_count (R : FF) : SF :=
    seqS (ifS (tst (bin eqG (varF 1) (fnB lenG (con (fldF 0 0 (varF 0)) (nil))))) (retS (cF (.int 1))) (passS))
    (seqS (ifS (tst (bin (inDk not) (tupE (con (varF 1) (con (varF 2) (nil)))) (fldF 0 2 (varF 0)))) (seqS (setS 3 (cF (.int 0)))
    (seqS (forS (walkF (methF 0 3 m_Table_steps (varF 0) (con (varF 1) (con (varF 2) (nil))))) (tupG [(nameG 4), (nameG 5)]) (l_Table_count_1 R))
    (asgS' (varF 3) (setD (fldF 0 2 (varF 0)) (tupE (con (varF 1) (con (varF 2) (nil)))))))) (passS))
    (retS (bin ixDk (fldF 0 2 (varF 0)) (tupE (con (varF 1) (con (varF 2) (nil)))))))
noncomputable def m_Table_count_n : Nat → FF
  | 0 => fun _ _ => .stuck
  | k + 1 => fnF N_Table_count 3 (b_Table_count (m_Table_count_n k))
noncomputable def m_Table_count : FF := m_Table_count_n 33
/-! Table.__init__ -/
def N_TableD__initD_ : List Str := ["self", "known", "promises"]
noncomputable def b_TableD__initD_ : SF :=
    seqS (setF 0 0 (varF 0) (varF 1))
    (seqS (setF 0 1 (varF 0) (varF 2))
    (setF 0 2 (varF 0) (dicE)))
noncomputable def m_TableD__initD_ : FF := fnK N_TableD__initD_ 3 b_TableD__initD_
/-! count_rows -/
def N_count_rows : List Str := ["known", "promises"]
noncomputable def b_count_rows : SF :=
    retS (methF 0 3 m_Table_count (makeF 0 3 m_TableD__initD_ (con (varF 0) (con (varF 1) (nil)))) (con (cF (.int 0)) (con (bin mulT (tupE (con (cF .non) (nil))) (fnB lenG (con (varF 1) (nil)))) (nil))))
noncomputable def m_count_rows : FF := fnF N_count_rows 2 b_count_rows
/-! row_at -/
def N_row_at : List Str := ["known", "promises", "number", "table", "left", "row", "rest", "day", "letter", "later", "count"]
noncomputable def l_row_at_1 : SF :=
    seqS (setS 10 (methF 0 3 m_Table_count (varF 3) (con (bin addG (varF 7) (cF (.int 1))) (con (varF 9) (nil)))))
    (seqS (ifS (tst (bin ltG (varF 6) (varF 10))) (seqS (parS 5 4 (con (bin addG (varF 5) (varF 8)) (con (varF 9) (nil))))
    (brkS)) (passS))
    (augS (fun i j => i - j) 6 (varF 10)))
noncomputable def l_row_at_2 : SF :=
    forS (walkF (methF 0 3 m_Table_steps (varF 3) (con (varF 7) (con (varF 4) (nil))))) (tupG [(nameG 8), (nameG 9)]) (l_row_at_1)
noncomputable def b_row_at : SF :=
    seqS (par3S 3 4 5 (con (makeF 0 3 m_TableD__initD_ (con (varF 0) (con (varF 1) (nil)))) (con (bin mulT (tupE (con (cF .non) (nil))) (fnB lenG (con (varF 1) (nil)))) (con (cF (.str [])) (nil)))))
    (seqS (ifS (tst (bin geG (varF 2) (methF 0 3 m_Table_count (varF 3) (con (cF (.int 0)) (con (varF 4) (nil)))))) (retS (cF .non)) (passS))
    (seqS (setS 6 (varF 2))
    (seqS (forS (rng1F (con (fnB lenG (con (varF 0) (nil))) (nil))) (nameG 7) (l_row_at_2))
    (retS (varF 5)))))
noncomputable def m_row_at : FF := fnF N_row_at 3 b_row_at
/-! law -/
def N_law_k11 : List Str := ["script", "tape", "turn", "row", "known", "promises", "many", "before", "number", "own", "day", "state", "some", "parts", "kind", "start", "count", "end", "early", "late"]
noncomputable def l_law_k11_1 : SF :=
    seqS (setS 9 (callF 3 m_row_at (con (varF 4) (con (varF 5) (con (varF 8) (nil))))))
    (seqS (ifS (orT (tst (bin isNG (varF 9) (cF .non))) (orT (notT (tst (callF 3 m_law_fits (con (varF 9) (con (varF 4) (con (varF 5) (nil))))))) (tst (bin ltS (varF 9) (varF 7))))) (retS (cF (.bl false))) (passS))
    (setS 7 (varF 9)))
noncomputable def l_law_k11_2 : SF :=
    seqS (setS 12 (compF (walkF (cF (.str [119, 102]))) [9] (nameG 9) (tst (bin inG (bin ixG (varF 4) (varF 10)) (tupE (con (varF 9) (con (cF (.str [63])) (nil)))))) (varF 9)))
    (seqS (setS 13 (compF (walkF (varF 12)) [9] (nameG 9) (yes) (callF 2 m_count_rows (con (bin addG (bin addG (slF slG (varF 4) noP (parF (varF 10))) (varF 9)) (slF slG (varF 4) (parF (bin addG (varF 10) (cF (.int 1)))) noP)) (con (varF 5) (nil))))))
    (ifS (orT (tst (bin neG (fnB sumG (con (varF 13) (nil))) (varF 6))) (tst (bin neG (bin eqG (varF 11) (cF (.str [63]))) (andE (bin ninG (cF (.int 0)) (varF 13)) (bin eqG (fnB lenG (con (varF 13) (nil))) (cF (.int 2))))))) (retS (cF (.bl false))) (passS)))
noncomputable def l_law_k11_3 : SF :=
    seqS (setS 3 (callF 2 m_law_row (con (varF 1) (con (bin addG (cF (.int 10)) (callF 2 m_law_draw (con (varF 1) (con (cF (.int 16)) (nil))))) (nil)))))
    (seqS (setS 4 (callF 2 m_law_masked (con (varF 1) (con (varF 3) (nil)))))
    (seqS (setS 5 (fnB tupleG (con (compF (walkF (callF 3 m_law_promises (con (varF 1) (con (varF 3) (con (cF (.int 4)) (nil)))))) [9] (nameG 9) (tst (callF 2 m_law_keeps (con (varF 3) (con (varF 9) (nil))))) (varF 9)) (nil))))
    (seqS (setS 6 (callF 2 m_count_rows (con (varF 4) (con (varF 5) (nil)))))
    (seqS (ifS (tst (bin ltG (varF 6) (cF (.int 1)))) (retS (cF (.bl false))) (passS))
    (seqS (setS 7 (cF (.str [])))
    (seqS (forS (walkF (fnB ordG (con (lstE (con (cF (.int 0)) (con (bin subG (varF 6) (cF (.int 1))) (con (callF 2 m_law_draw (con (varF 1) (con (varF 6) (nil)))) (con (callF 2 m_law_draw (con (varF 1) (con (varF 6) (nil)))) (nil)))))) (nil)))) (nameG 8) (l_law_k11_1))
    (seqS (ifS (tst (bin isntG (callF 3 m_row_at (con (varF 4) (con (varF 5) (con (varF 6) (nil))))) (cF .non))) (retS (cF (.bl false))) (passS))
    (seqS (forS (enumF (con (callF 2 m_day_states (con (varF 4) (con (varF 5) (nil)))) (nil))) (tupG [(nameG 10), (nameG 11)]) (l_law_k11_2))
    (seqS (asgS' (callF 2 m_law_promise (con (varF 1) (con (varF 3) (nil)))) (tupG [(nameG 14), (nameG 15), (nameG 16), (nameG 17)]))
    (seqS (setS 18 (callF 2 m_count_rows (con (varF 4) (con (bin addG (varF 5) (tupE (con (tupE (con (cF (.str [98, 121])) (con (varF 15) (con (varF 16) (con (varF 17) (nil)))))) (nil)))) (nil)))))
    (ifS (tst (bin ltG (varF 17) (bin subG (fnB lenG (con (varF 4) (nil))) (cF (.int 1))))) (seqS (setS 19 (callF 2 m_count_rows (con (varF 4) (con (bin addG (varF 5) (tupE (con (tupE (con (cF (.str [102, 114, 111, 109])) (con (varF 15) (con (varF 16) (con (bin addG (varF 17) (cF (.int 1))) (nil)))))) (nil)))) (nil)))))
    (ifS (tst (bin neG (bin addG (varF 18) (varF 19)) (varF 6))) (retS (cF (.bl false))) (passS))) (passS))))))))))))
noncomputable def b_law_k11 : SF :=
    seqS (setS 1 (ownE (con (fnB listF (con (varF 0) (nil))) (con (cF (.int 0)) (con (cF (.int 0)) (nil))))))
    (seqS (forS (rng1F (con (cF (.int 2)) (nil))) (nameG 2) (l_law_k11_3))
    (retS (cF (.bl true))))
noncomputable def m_law_k11 : FF := fnF N_law_k11 1 b_law_k11
/-! nearest -/
def N_nearest : List Str := ["known", "promises", "week", "table", "layer", "day", "later", "left", "count", "row", "letter", "then", "total", "best", "found"]
noncomputable def l_nearest_1 : SF :=
    seqS (setS 12 (bin addG (varF 8) (fnB intOf (con (bin neG (varF 10) (bin ixG (varF 2) (bin modG (varF 5) (cF (.int 7))))) (nil)))))
    (ifS (orT (tst (bin (inDk not) (varF 11) (varF 6))) (tst (bin ltG (varF 12) (bin ixG (bin ixDk (varF 6) (varF 11)) (cF (.int 0)))))) (asgS' (tupE (con (varF 12) (con (bin addG (varF 9) (varF 10)) (nil)))) (setD (varF 6) (varF 11))) (passS))
noncomputable def l_nearest_2 : SF :=
    forS (walkF (methF 0 3 m_Table_steps (varF 3) (con (varF 5) (con (varF 7) (nil))))) (tupG [(nameG 10), (nameG 11)]) (l_nearest_1)
noncomputable def l_nearest_3 : SF :=
    seqS (setS 6 (dicE))
    (seqS (forS (walkD (varF 4)) (tupG [(nameG 7), (tupG [(nameG 8), (nameG 9)])]) (l_nearest_2))
    (setS 4 (varF 6)))
noncomputable def l_nearest_4 : SF :=
    ifS (orT (tst (bin isNG (varF 13) (cF .non))) (tst (bin ltG (bin ixG (varF 14) (cF (.int 0))) (bin ixG (varF 13) (cF (.int 0)))))) (setS 13 (varF 14)) (passS)
noncomputable def b_nearest : SF :=
    seqS (setS 3 (makeF 0 3 m_TableD__initD_ (con (varF 0) (con (varF 1) (nil)))))
    (seqS (setS 4 (dic1E (bin mulT (tupE (con (cF .non) (nil))) (fnB lenG (con (varF 1) (nil)))) (tupE (con (cF (.int 0)) (con (cF (.str [])) (nil))))))
    (seqS (forS (rng1F (con (fnB lenG (con (varF 0) (nil))) (nil))) (nameG 5) (l_nearest_3))
    (seqS (setS 13 (cF .non))
    (seqS (forS (walkD (varF 4)) (tupG [(nameG 7), (nameG 14)]) (l_nearest_4))
    (retS (varF 13))))))
noncomputable def m_nearest : FF := fnF N_nearest 3 b_nearest
/-! fewest_exceptions -/
def N_fewest_exceptions : List Str := ["known", "promises", "week", "found"]
noncomputable def b_fewest_exceptions : SF :=
    seqS (setS 3 (callF 3 m_nearest (con (varF 0) (con (varF 1) (con (varF 2) (nil))))))
    (retS (iteE (tst (bin isntG (varF 3) (cF .non))) (bin ixG (varF 3) (cF (.int 0))) (cF .non)))
noncomputable def m_fewest_exceptions : FF := fnF N_fewest_exceptions 3 b_fewest_exceptions
/-! row_near -/
def N_row_near : List Str := ["known", "promises", "week", "found"]
noncomputable def b_row_near : SF :=
    seqS (setS 3 (callF 3 m_nearest (con (varF 0) (con (varF 1) (con (varF 2) (nil))))))
    (retS (iteE (tst (bin isntG (varF 3) (cF .non))) (bin ixG (varF 3) (cF (.int 1))) (cF .non)))
noncomputable def m_row_near : FF := fnF N_row_near 3 b_row_near
/-! _law_exceptions -/
def N_law_exceptions : List Str := ["row", "week", "day"]
noncomputable def b_law_exceptions : SF :=
    retS (fnB lenG (con (compF (rng1F (con (fnB lenG (con (varF 0) (nil))) (nil))) [2] (nameG 2) (tst (bin neG (bin ixG (varF 0) (varF 2)) (bin ixG (varF 1) (bin modG (varF 2) (cF (.int 7)))))) (varF 2)) (nil)))
noncomputable def m_law_exceptions : FF := fnF N_law_exceptions 2 b_law_exceptions
/-! law -/
def N_law_k12 : List Str := ["script", "tape", "turn", "known", "promises", "rows", "ask", "week", "told", "near", "due", "row"]
noncomputable def l_law_k12_1 : SF :=
    seqS (setS 7 (callF 2 m_law_row (con (varF 1) (con (cF (.int 7)) (nil)))))
    (seqS (ifS (andT (tst (bin neG (varF 5) (lstE (nil)))) (tst (bin eqG (callF 2 m_law_draw (con (varF 1) (con (cF (.int 2)) (nil)))) (cF (.int 0))))) (setS 7 (slF slG (bin addG (bin ixG (varF 5) (callF 2 m_law_draw (con (varF 1) (con (fnB lenG (con (varF 5) (nil))) (nil))))) (varF 7)) noP (parF (cF (.int 7))))) (passS))
    (seqS (parS 8 9 (con (callF 3 m_fewest_exceptions (con (varF 3) (con (varF 4) (con (varF 7) (nil))))) (con (callF 3 m_row_near (con (varF 3) (con (varF 4) (con (varF 7) (nil))))) (nil))))
    (ifS (tst (bin eqG (varF 5) (lstE (nil)))) (ifS (orT (tst (bin isntG (varF 8) (cF .non))) (tst (bin isntG (varF 9) (cF .non)))) (retS (cF (.bl false))) (passS)) (seqS (setS 10 (fnB minG (con (compF (walkF (varF 5)) [11] (nameG 11) (yes) (callF 2 m_law_exceptions (con (varF 11) (con (varF 7) (nil))))) (nil))))
    (ifS (orT (notT (tst (callF 2 m_law_like (con (varF 8) (con (varF 10) (nil)))))) (orT (tst (bin ninG (varF 9) (varF 5))) (tst (bin neG (callF 2 m_law_exceptions (con (varF 9) (con (varF 7) (nil)))) (varF 10))))) (retS (cF (.bl false))) (passS))))))
noncomputable def l_law_k12_2 : SF :=
    seqS (asgS' (callF 3 m_law_case (con (varF 1) (con (cF (.int 9)) (con (cF (.int 5)) (nil))))) (tupG [(nameG 3), (nameG 4)]))
    (seqS (setS 5 (callF 2 m_law_rows (con (varF 3) (con (varF 4) (nil)))))
    (forS (rng1F (con (cF (.int 3)) (nil))) (nameG 6) (l_law_k12_1)))
noncomputable def b_law_k12 : SF :=
    seqS (setS 1 (ownE (con (fnB listF (con (varF 0) (nil))) (con (cF (.int 0)) (con (cF (.int 0)) (nil))))))
    (seqS (forS (rng1F (con (cF (.int 4)) (nil))) (nameG 2) (l_law_k12_2))
    (retS (andE (bin eqG (callF 3 m_fewest_exceptions (con (cF (.str [119, 119, 119, 119, 119, 102, 102])) (con (tupE (nil)) (con (cF (.str [119, 119, 119, 119, 119, 102, 102])) (nil))))) (cF (.int 0))) (bin eqG (callF 3 m_fewest_exceptions (con (bin mulG (cF (.str [102])) (cF (.int 31))) (con (tupE (nil)) (con (bin mulG (cF (.str [119])) (cF (.int 7))) (nil))))) (cF (.int 31))))))
noncomputable def m_law_k12 : FF := fnF N_law_k12 1 b_law_k12
/-! _law_few -/
def N_law_few : List Str := ["row", "found", "total", "place", "some", "free", "good", "longer", "week", "day", "letter"]
noncomputable def l_law_few_1 : SF :=
    setS 7 (bin addG (varF 7) (compF (walkF (varF 6)) [10] (nameG 10) (yes) (bin addG (varF 8) (varF 10))))
noncomputable def l_law_few_2 : SF :=
    seqS (setS 4 (compF (rng3F (con (varF 3) (con (fnB lenG (con (varF 0) (nil))) (con (cF (.int 7)) (nil))))) [9] (nameG 9) (yes) (bin ixG (varF 0) (varF 9))))
    (seqS (setS 5 (meB' isLst cntL (varF 4) (con (cF (.str [102])) (nil))))
    (seqS (setS 2 (bin addG (varF 2) (fnB minG (con (varF 5) (con (bin subG (fnB lenG (con (varF 4) (nil))) (varF 5)) (nil))))))
    (seqS (setS 6 (compF (walkF (cF (.str [102, 119]))) [10] (nameG 10) (tst (bin geG (bin mulG (meB' isLst cntL (varF 4) (con (varF 10) (nil))) (cF (.int 2))) (fnB lenG (con (varF 4) (nil))))) (varF 10)))
    (seqS (setS 7 (lstE (nil)))
    (seqS (forS (walkF (varF 1)) (nameG 8) (l_law_few_1))
    (setS 1 (varF 7)))))))
noncomputable def b_law_few : SF :=
    seqS (parS 1 2 (con (lstE (con (cF (.str [])) (nil))) (con (cF (.int 0)) (nil))))
    (seqS (forS (rng1F (con (cF (.int 7)) (nil))) (nameG 3) (l_law_few_2))
    (retS (tupE (con (varF 2) (con (varF 1) (nil))))))
noncomputable def m_law_few : FF := fnF N_law_few 1 b_law_few
/-! all_weeks -/
def N_all_weeks : List Str := ["found", "day", "week", "letter"]
noncomputable def l_all_weeks_1 : SF :=
    setS 0 (comp2F (walkF (varF 0)) [2, 3] (nameG 2) (yes) (walkF (cF (.str [102, 119]))) [3] (nameG 3) (yes) (bin addG (varF 2) (varF 3)))
noncomputable def b_all_weeks : SF :=
    seqS (setS 0 (lstE (con (cF (.str [])) (nil))))
    (seqS (forS (rng1F (con (cF (.int 7)) (nil))) (nameG 1) (l_all_weeks_1))
    (retS (varF 0)))
noncomputable def m_all_weeks : FF := fnF N_all_weeks 0 b_all_weeks
/-! best_weeks -/
def N_best_weeks : List Str := ["known", "promises", "best", "found", "week", "count"]
noncomputable def l_best_weeks_1 : SF :=
    seqS (setS 5 (callF 3 m_fewest_exceptions (con (varF 0) (con (varF 1) (con (varF 4) (nil))))))
    (seqS (ifS (andT (tst (bin isntG (varF 5) (cF .non))) (tst (bin ltG (varF 5) (varF 2)))) (parS 2 3 (con (varF 5) (con (ownE (nil)) (nil)))) (passS))
    (ifS (tst (bin eqG (varF 5) (varF 2))) (dropS (meB' isOwn appG (varF 3) (con (varF 4) (nil)))) (passS)))
noncomputable def b_best_weeks : SF :=
    seqS (parS 2 3 (con (fnB lenG (con (varF 0) (nil))) (con (ownE (nil)) (nil))))
    (seqS (forS (walkF (callF 0 m_all_weeks nil)) (nameG 4) (l_best_weeks_1))
    (retS (varF 3)))
noncomputable def m_best_weeks : FF := fnF N_best_weeks 2 b_best_weeks
/-! law -/
def N_law_k13 : List Str := ["script", "tape", "turn", "row", "known", "promises", "rows", "parts", "due", "least", "total", "weeks", "told", "week", "own", "part"]
noncomputable def l_law_k13_1 : SF :=
    setS 8 (bin addG (varF 8) (iteE (tst (bin eqG (varF 10) (varF 9))) (varF 11) (lstE (nil))))
noncomputable def l_law_k13_2 : SF :=
    ifS (tst (bin neG (callF 3 m_fewest_exceptions (con (varF 4) (con (varF 5) (con (varF 13) (nil))))) (varF 9))) (retS (cF (.bl false))) (passS)
noncomputable def l_law_k13_3 : SF :=
    seqS (setS 3 (callF 2 m_law_row (con (varF 1) (con (bin addG (cF (.int 8)) (callF 2 m_law_draw (con (varF 1) (con (cF (.int 4)) (nil))))) (nil)))))
    (seqS (setS 4 (callF 2 m_law_masked (con (varF 1) (con (varF 3) (nil)))))
    (seqS (setS 5 (callF 3 m_law_promises (con (varF 1) (con (varF 3) (con (cF (.int 3)) (nil))))))
    (seqS (setS 6 (callF 2 m_law_rows (con (varF 4) (con (varF 5) (nil)))))
    (seqS (setS 7 (compF (walkF (varF 6)) [14] (nameG 14) (yes) (callF 1 m_law_few (con (varF 14) (nil)))))
    (seqS (parS 8 9 (con (lstE (nil)) (con (cF .non) (nil))))
    (seqS (ifS (tst (bin neG (varF 7) (lstE (nil)))) (seqS (setS 9 (fnB minG (con (compF (walkF (varF 7)) [15] (nameG 15) (yes) (bin ixG (varF 15) (cF (.int 0)))) (nil))))
    (forS (walkF (varF 7)) (tupG [(nameG 10), (nameG 11)]) (l_law_k13_1))) (passS))
    (seqS (setS 12 (callF 2 m_best_weeks (con (varF 4) (con (varF 5) (nil)))))
    (seqS (ifS (notT (tst (callF 2 m_law_like (con (varF 12) (con (ssF (varF 8)) (nil)))))) (retS (cF (.bl false))) (passS))
    (forS (walkF (slF slG (varF 12) noP (parF (cF (.int 3))))) (nameG 13) (l_law_k13_2))))))))))
noncomputable def b_law_k13 : SF :=
    seqS (setS 1 (ownE (con (fnB listF (con (varF 0) (nil))) (con (cF (.int 0)) (con (cF (.int 0)) (nil))))))
    (seqS (forS (walkF (tupE (con (cF (.int 0)) (nil)))) (nameG 2) (l_law_k13_3))
    (retS (andE (bin eqG (callF 2 m_best_weeks (con (cF (.str [102])) (con (tupE (con (tupE (con (cF (.str [98, 121])) (con (una negG (cF (.int 1))) (con (cF (.int 1)) (con (cF (.int 0)) (nil)))))) (nil))) (nil)))) (lstE (nil))) (bin eqG (callF 2 m_best_weeks (con (bin mulG (cF (.str [119, 119, 119, 119, 119, 102, 102])) (cF (.int 2))) (con (tupE (nil)) (nil)))) (lstE (con (cF (.str [119, 119, 119, 119, 119, 102, 102])) (nil)))))))
noncomputable def m_law_k13 : FF := fnF N_law_k13 1 b_law_k13
/-! Days.__init__ -/
def N_DaysD__initD_ : List Str := ["self", "text", "day", "letter"]
noncomputable def b_DaysD__initD_ : SF :=
    seqS (ifS (notT (tst (callF 1 m_is_row (con (varF 1) (nil))))) (raiseS 0) (passS))
    (seqS (setF 1 0 (varF 0) (varF 1))
    (setF 1 1 (varF 0) (fnB tupleG (con (compF (enumF (con (varF 1) (nil))) [2, 3] (tupG [(nameG 2), (nameG 3)]) (tst (bin eqG (varF 3) (cF (.str [119])))) (varF 2)) (nil)))))
noncomputable def m_DaysD__initD_ : FF := fnK N_DaysD__initD_ 2 b_DaysD__initD_
/-! Days.after -/
def N_Days_after_v1 : List Str := ["self", "start", "count", "days", "due"]
noncomputable def b_Days_after_v1 : SF :=
    seqS (setS 3 (fnB lenG (con (fldF 1 0 (varF 0)) (nil))))
    (seqS (ifS (orT (notT (tst (callF 3 m_is_integer (con (varF 1) (con (una negG (cF (.int 1))) (con (bin subG (varF 3) (cF (.int 2))) (nil))))))) (notT (tst (callF 3 m_is_integer (con (varF 2) (con (cF (.int 1)) (con (varF 3) (nil)))))))) (raiseS 2) (passS))
    (seqS (setS 4 (callF 3 m_due_day (con (fldF 1 0 (varF 0)) (con (varF 1) (con (varF 2) (nil))))))
    (seqS (ifS (tst (bin eqG (varF 4) (varF 3))) (raiseS 3) (passS))
    (retS (varF 4)))))
noncomputable def m_Days_after_v1 : FF := fnF N_Days_after_v1 3 b_Days_after_v1
/-! _law_after -/
def N_law_after : List Str := ["days", "start", "count"]
noncomputable def b_law_after : SF :=
    tryC [2, 3] (retS (methF 1 3 m_Days_after_v1 (varF 0) (con (varF 1) (con (varF 2) (nil))))) [(3, retS (cF (.str [110, 111, 110, 101]))), (2, retS (cF (.str [110, 117, 109, 98, 101, 114])))]
noncomputable def m_law_after : FF := fnF N_law_after 3 b_law_after
/-! Days.between -/
def N_Days_between_v1 : List Str := ["self", "one", "other", "days", "day"]
noncomputable def b_Days_between_v1 : SF :=
    seqS (setS 3 (fnB lenG (con (fldF 1 0 (varF 0)) (nil))))
    (seqS (ifS (orT (notT (tst (callF 3 m_is_integer (con (varF 1) (con (una negG (cF (.int 1))) (con (bin subG (varF 3) (cF (.int 1))) (nil))))))) (notT (tst (callF 3 m_is_integer (con (varF 2) (con (varF 1) (con (bin subG (varF 3) (cF (.int 1))) (nil)))))))) (raiseS 2) (passS))
    (retS (fnB lenG (con (compF (walkF (fldF 1 1 (varF 0))) [4] (nameG 4) (tst (chain ltG leG (varF 1) (varF 4) (varF 2))) (varF 4)) (nil)))))
noncomputable def m_Days_between_v1 : FF := fnF N_Days_between_v1 3 b_Days_between_v1
/-! Days.__contains__ -/
def N_DaysD__containsD_ : List Str := ["self", "x"]
noncomputable def b_DaysD__containsD_ : SF :=
    retS (andE (callF 3 m_is_integer (con (varF 1) (con (cF (.int 0)) (con (bin subG (fnB lenG (con (fldF 1 0 (varF 0)) (nil))) (cF (.int 1))) (nil))))) (bin eqG (bin ixG (fldF 1 0 (varF 0)) (varF 1)) (cF (.str [119]))))
noncomputable def m_DaysD__containsD_ : FF := fnF N_DaysD__containsD_ 2 b_DaysD__containsD_
/-! _law_between -/
def N_law_between : List Str := ["days", "one", "other"]
noncomputable def b_law_between : SF :=
    tryC [2] (retS (methF 1 3 m_Days_between_v1 (varF 0) (con (varF 1) (con (varF 2) (nil))))) [(2, retS (cF (.str [110, 117, 109, 98, 101, 114])))]
noncomputable def m_law_between : FF := fnF N_law_between 3 b_law_between
/-! law -/
def N_law_k15 : List Str := ["script", "tape", "turn", "row", "many", "days", "ask", "start", "count", "good", "due", "one", "other", "told"]
noncomputable def l_law_k15_1 : SF :=
    seqS (setS 7 (bin ixG (lstE (con (bin subG (callF 2 m_law_draw (con (varF 1) (con (varF 4) (nil)))) (cF (.int 1))) (con (bin subG (callF 2 m_law_draw (con (varF 1) (con (varF 4) (nil)))) (cF (.int 1))) (con (una negG (cF (.int 2))) (con (bin subG (varF 4) (cF (.int 1))) (con (cF (.bl true)) (con (cF .non) (nil)))))))) (callF 2 m_law_draw (con (varF 1) (con (cF (.int 6)) (nil))))))
    (seqS (setS 8 (bin ixG (lstE (con (bin addG (cF (.int 1)) (callF 2 m_law_draw (con (varF 1) (con (varF 4) (nil))))) (con (bin addG (cF (.int 1)) (callF 2 m_law_draw (con (varF 1) (con (fnB minG (con (cF (.int 4)) (con (varF 4) (nil)))) (nil))))) (con (cF (.int 0)) (con (bin addG (varF 4) (cF (.int 1))) (nil)))))) (callF 2 m_law_draw (con (varF 1) (con (cF (.int 4)) (nil))))))
    (seqS (setS 9 (andE (callF 3 m_law_within (con (varF 7) (con (una negG (cF (.int 1))) (con (bin subG (varF 4) (cF (.int 2))) (nil))))) (callF 3 m_law_within (con (varF 8) (con (cF (.int 1)) (con (varF 4) (nil)))))))
    (seqS (setS 10 (cF (.str [110, 117, 109, 98, 101, 114])))
    (seqS (ifS (tst (varF 9)) (seqS (setS 10 (callF 3 m_law_due (con (varF 3) (con (varF 7) (con (varF 8) (nil))))))
    (setS 10 (iteE (tst (bin ltG (varF 10) (varF 4))) (varF 10) (cF (.str [110, 111, 110, 101]))))) (passS))
    (seqS (ifS (notT (tst (callF 2 m_law_like (con (callF 3 m_law_after (con (varF 5) (con (varF 7) (con (varF 8) (nil))))) (con (varF 10) (nil)))))) (retS (cF (.bl false))) (passS))
    (seqS (ifS (andT (tst (varF 9)) (tst (bin neG (varF 10) (cF (.str [110, 111, 110, 101]))))) (seqS (ifS (orT (tst (bin neG (methF 1 3 m_Days_between_v1 (varF 5) (con (varF 7) (con (varF 10) (nil)))) (varF 8))) (tst (bin (ninO 2 1 m_DaysD__containsD_) (varF 10) (varF 5)))) (retS (cF (.bl false))) (passS))
    (ifS (tst (bin isntG (callF 2 m_keeps (con (varF 3) (con (tupE (con (cF (.str [111, 110])) (con (varF 7) (con (varF 8) (con (varF 10) (nil)))))) (nil)))) (cF (.bl true)))) (retS (cF (.bl false))) (passS))) (passS))
    (seqS (setS 11 (bin ixG (lstE (con (bin subG (callF 2 m_law_draw (con (varF 1) (con (bin addG (varF 4) (cF (.int 1))) (nil)))) (cF (.int 1))) (con (una negG (cF (.int 2))) (con (varF 4) (con (cF .non) (con (cF (.bl true)) (nil))))))) (callF 2 m_law_draw (con (varF 1) (con (cF (.int 5)) (nil))))))
    (seqS (setS 12 (bin ixG (lstE (con (bin subG (callF 2 m_law_draw (con (varF 1) (con (bin addG (varF 4) (cF (.int 1))) (nil)))) (cF (.int 1))) (con (bin subG (varF 4) (cF (.int 1))) (con (varF 4) (con (una negG (cF (.int 1))) (nil)))))) (callF 2 m_law_draw (con (varF 1) (con (cF (.int 4)) (nil))))))
    (seqS (setS 13 (cF (.str [110, 117, 109, 98, 101, 114])))
    (seqS (ifS (andT (tst (callF 3 m_law_within (con (varF 11) (con (una negG (cF (.int 1))) (con (bin subG (varF 4) (cF (.int 1))) (nil)))))) (tst (callF 3 m_law_within (con (varF 12) (con (varF 11) (con (bin subG (varF 4) (cF (.int 1))) (nil))))))) (setS 13 (meB' isStr cntG (slF slG (varF 3) (parF (bin addG (varF 11) (cF (.int 1)))) (parF (bin addG (varF 12) (cF (.int 1))))) (con (cF (.str [119])) (nil)))) (passS))
    (ifS (notT (tst (callF 2 m_law_like (con (callF 3 m_law_between (con (varF 5) (con (varF 11) (con (varF 12) (nil))))) (con (varF 13) (nil)))))) (retS (cF (.bl false))) (passS))))))))))))
noncomputable def l_law_k15_2 : SF :=
    seqS (setS 3 (callF 2 m_law_row (con (varF 1) (con (bin addG (cF (.int 1)) (callF 2 m_law_draw (con (varF 1) (con (cF (.int 31)) (nil))))) (nil)))))
    (seqS (parS 4 5 (con (fnB lenG (con (varF 3) (nil))) (con (makeF 1 2 m_DaysD__initD_ (con (varF 3) (nil))) (nil))))
    (forS (rng1F (con (cF (.int 6)) (nil))) (nameG 6) (l_law_k15_1)))
noncomputable def b_law_k15 : SF :=
    seqS (setS 1 (ownE (con (fnB listF (con (varF 0) (nil))) (con (cF (.int 0)) (con (cF (.int 0)) (nil))))))
    (seqS (forS (rng1F (con (cF (.int 8)) (nil))) (nameG 2) (l_law_k15_2))
    (retS (cF (.bl true))))
noncomputable def m_law_k15 : FF := fnF N_law_k15 1 b_law_k15
/-! is_known_rows -/
def N_is_known_rows : List Str := ["value"]
noncomputable def b_is_known_rows : SF :=
    retS (callF 2 m_are_letters (con (varF 0) (con (cF (.str [119, 102, 63])) (nil))))
noncomputable def m_is_known_rows : FF := fnF N_is_known_rows 1 b_is_known_rows
/-! Log.__init__ -/
def N_LogD__initD_ : List Str := ["self", "known"]
noncomputable def b_LogD__initD_ : SF :=
    seqS (ifS (notT (tst (callF 1 m_is_known_rows (con (varF 1) (nil))))) (raiseS 0) (passS))
    (seqS (setF 2 0 (varF 0) (varF 1))
    (seqS (setF 2 1 (varF 0) (tupE (nil)))
    (seqS (setF 2 2 (varF 0) (varF 1))
    (setF 2 3 (varF 0) (ownE (nil))))))
noncomputable def m_LogD__initD_ : FF := fnK N_LogD__initD_ 2 b_LogD__initD_
/-! Log.check -/
def N_Log_check : List Str := ["self", "promises", "promise"]
noncomputable def b_Log_check : SF :=
    seqS (ifS (notT (tst (callF 2 m_is_promise (con (fldF 2 0 (varF 0)) (con (varF 2) (nil)))))) (raiseS 1) (passS))
    (seqS (ifS (tst (bin geG (fnB lenG (con (varF 1) (nil))) (cF (.int 6)))) (raiseS 6) (passS))
    (ifS (notT (tst (callF 2 m_is_possible (con (fldF 2 0 (varF 0)) (con (tupE (starF (varF 1) (con (varF 2) (nil)))) (nil)))))) (raiseS 5) (passS)))
noncomputable def m_Log_check : FF := fnF N_Log_check 3 b_Log_check
/-! Log.become -/
def N_Log_become : List Str := ["self", "promises"]
noncomputable def b_Log_become : SF :=
    seqS (setF 2 1 (varF 0) (varF 1))
    (setF 2 2 (varF 0) (callF 2 m_day_states (con (fldF 2 0 (varF 0)) (con (varF 1) (nil)))))
noncomputable def m_Log_become : FF := fnF N_Log_become 2 b_Log_become
/-! Log.add -/
def N_Log_add : List Str := ["self", "kind", "start", "count", "end", "promise", "letter"]
noncomputable def b_Log_add : SF :=
    seqS (setS 5 (tupE (con (varF 1) (con (varF 2) (con (varF 3) (con (varF 4) (nil)))))))
    (seqS (dropS (methF 2 3 m_Log_check (varF 0) (con (fldF 2 1 (varF 0)) (con (varF 5) (nil)))))
    (seqS (dropS (meB' isOwn appG (fldF 2 3 (varF 0)) (con (fldF 2 1 (varF 0)) (nil))))
    (seqS (dropS (methF 2 2 m_Log_become (varF 0) (con (tupE (starF (fldF 2 1 (varF 0)) (con (varF 5) (nil)))) (nil))))
    (retS (fnB lenG (con (compF (walkF (fldF 2 2 (varF 0))) [6] (nameG 6) (tst (bin eqG (varF 6) (cF (.str [63])))) (varF 6)) (nil)))))))
noncomputable def m_Log_add : FF := fnF N_Log_add 5 b_Log_add
/-! _law_log -/
def N_law_log : List Str := ["known", "promises", "log", "kind", "start", "count", "end"]
noncomputable def l_law_log_1 : SF :=
    dropS (methF 2 5 m_Log_add (varF 2) (con (varF 3) (con (varF 4) (con (varF 5) (con (varF 6) (nil))))))
noncomputable def b_law_log : SF :=
    seqS (setS 2 (makeF 2 2 m_LogD__initD_ (con (varF 0) (nil))))
    (seqS (forS (walkF (varF 1)) (tupG [(nameG 3), (nameG 4), (nameG 5), (nameG 6)]) (l_law_log_1))
    (retS (varF 2)))
noncomputable def m_law_log : FF := fnK N_law_log 2 b_law_log
/-! Log.try_all -/
def N_Log_try_all_v1 : List Str := ["self", "promises", "later", "promise"]
noncomputable def l_Log_try_all_v1_1 : SF :=
    seqS (tryT [1, 5, 6] (dropS (methF 2 3 m_Log_check (varF 0) (con (varF 2) (con (varF 3) (nil))))) (retS (cF (.bl false))))
    (setS 2 (tupE (starF (varF 2) (con (varF 3) (nil)))))
noncomputable def b_Log_try_all_v1 : SF :=
    seqS (setS 2 (fldF 2 1 (varF 0)))
    (seqS (forS (walkF (varF 1)) (nameG 3) (l_Log_try_all_v1_1))
    (seqS (dropS (meB' isOwn appG (fldF 2 3 (varF 0)) (con (fldF 2 1 (varF 0)) (nil))))
    (seqS (dropS (methF 2 2 m_Log_become (varF 0) (con (varF 2) (nil))))
    (retS (cF (.bl true))))))
noncomputable def m_Log_try_all_v1 : FF := fnS N_Log_try_all_v1 1 b_Log_try_all_v1
/-! _law_tried -/
def N_law_tried : List Str := ["log", "some"]
noncomputable def b_law_tried : SF :=
    seqS (ifS (tst (bin eqG (fnB lenG (con (varF 1) (nil))) (cF (.int 0)))) (retS (methSF 2 m_Log_try_all_v1 (varF 0) (nil))) (passS))
    (seqS (ifS (tst (bin eqG (fnB lenG (con (varF 1) (nil))) (cF (.int 1)))) (retS (methSF 2 m_Log_try_all_v1 (varF 0) (con (bin ixG (varF 1) (cF (.int 0))) (nil)))) (passS))
    (retS (iteE (tst (bin eqG (fnB lenG (con (varF 1) (nil))) (cF (.int 2)))) (methSF 2 m_Log_try_all_v1 (varF 0) (con (bin ixG (varF 1) (cF (.int 0))) (con (bin ixG (varF 1) (cF (.int 1))) (nil)))) (methSF 2 m_Log_try_all_v1 (varF 0) (con (bin ixG (varF 1) (cF (.int 0))) (con (bin ixG (varF 1) (cF (.int 1))) (con (bin ixG (varF 1) (cF (.int 2))) (nil))))))))
noncomputable def m_law_tried : FF := fnF N_law_tried 2 b_law_tried
/-! Log.promises -/
def N_Log_promises : List Str := ["self"]
noncomputable def b_Log_promises : SF :=
    retS (fldF 2 1 (varF 0))
noncomputable def m_Log_promises : FF := fnF N_Log_promises 1 b_Log_promises
/-! Log.states -/
def N_Log_states : List Str := ["self"]
noncomputable def b_Log_states : SF :=
    retS (fldF 2 2 (varF 0))
noncomputable def m_Log_states : FF := fnF N_Log_states 1 b_Log_states
/-! Log.__eq__ -/
def N_LogD__eqD_ : List Str := ["self", "other"]
noncomputable def b_LogD__eqD_ : SF :=
    retS (andE (isiO 2 (varF 1)) (andE (bin eqG (fldF 2 0 (varF 0)) (fldF 2 0 (varF 1))) (bin eqG (fldF 2 1 (varF 0)) (fldF 2 1 (varF 1)))))
noncomputable def m_LogD__eqD_ : FF := fnF N_LogD__eqD_ 2 b_LogD__eqD_
/-! Log.undo -/
def N_Log_undo : List Str := ["self"]
noncomputable def b_Log_undo : SF :=
    seqS (ifS (tst (bin eqG (fldF 2 3 (varF 0)) (lstE (nil)))) (raiseS 7) (passS))
    (dropS (methF 2 2 m_Log_become (varF 0) (con (meB' isOwn pop0G (fldF 2 3 (varF 0)) nil) (nil))))
noncomputable def m_Log_undo : FF := fnF N_Log_undo 1 b_Log_undo
/-! law -/
def N_law_k17 : List Str := ["script", "tape", "turn", "row", "known", "first", "log", "some", "k", "odd", "good", "now", "back", "own"]
noncomputable def l_law_k17_1 : SF :=
    setS 7 (bin addG (varF 7) (tupE (con (callF 2 m_law_promise (con (varF 1) (con (varF 3) (nil)))) (nil))))
noncomputable def l_law_k17_2 : SF :=
    seqS (setS 3 (callF 2 m_law_row (con (varF 1) (con (bin addG (cF (.int 2)) (callF 2 m_law_draw (con (varF 1) (con (cF (.int 7)) (nil))))) (nil)))))
    (seqS (setS 4 (callF 2 m_law_masked (con (varF 1) (con (varF 3) (nil)))))
    (seqS (setS 5 (fnB tupleG (con (compF (walkF (callF 3 m_law_promises (con (varF 1) (con (varF 3) (con (cF (.int 5)) (nil)))))) [13] (nameG 13) (tst (callF 2 m_law_keeps (con (varF 3) (con (varF 13) (nil))))) (varF 13)) (nil))))
    (seqS (parS 6 7 (con (callF 2 m_law_log (con (varF 4) (con (varF 5) (nil)))) (con (tupE (nil)) (nil))))
    (seqS (forS (rng1F (con (callF 2 m_law_draw (con (varF 1) (con (cF (.int 4)) (nil)))) (nil))) (nameG 8) (l_law_k17_1))
    (seqS (ifS (andT (tst (bin neG (varF 7) (tupE (nil)))) (tst (bin eqG (callF 2 m_law_draw (con (varF 1) (con (cF (.int 4)) (nil)))) (cF (.int 0))))) (seqS (setS 9 (lstE (con (cF .non) (con (tupE (nil)) (con (cF (.str [111, 110])) (con (tupE (con (cF (.str [111, 110])) (con (cF (.int 0)) (con (cF (.int 1)) (nil))))) (con (lstE (con (cF (.str [98, 121])) (con (una negG (cF (.int 1))) (con (cF (.int 1)) (con (cF (.int 0)) (nil)))))) (con (tupE (con (cF (.str [97, 116])) (con (una negG (cF (.int 1))) (con (cF (.int 1)) (con (cF (.int 0)) (nil)))))) (con (cF (.int 5)) (nil))))))))))
    (setS 7 (bin addG (slF slG (varF 7) noP (parF (una negG (cF (.int 1))))) (tupE (con (bin ixG (varF 9) (callF 2 m_law_draw (con (varF 1) (con (cF (.int 7)) (nil))))) (nil)))))) (passS))
    (seqS (setS 10 (callF 2 m_are_promises (con (varF 4) (con (bin addG (varF 5) (varF 7)) (nil)))))
    (seqS (setS 10 (andE (varF 10) (bin neG (callF 2 m_law_rows (con (varF 4) (con (bin addG (varF 5) (varF 7)) (nil)))) (lstE (nil)))))
    (seqS (ifS (notT (tst (callF 2 m_law_like (con (callF 2 m_law_tried (con (varF 6) (con (varF 7) (nil)))) (con (varF 10) (nil)))))) (retS (cF (.bl false))) (passS))
    (seqS (setS 11 (iteE (tst (varF 10)) (bin addG (varF 5) (varF 7)) (varF 5)))
    (seqS (ifS (orT (tst (bin neG (propF 2 m_Log_promises (varF 6)) (varF 11))) (orT (tst (bin neG (propF 2 m_Log_states (varF 6)) (callF 2 m_day_states (con (varF 4) (con (varF 11) (nil)))))) (tst (bin (neO 2 m_LogD__eqD_) (varF 6) (callF 2 m_law_log (con (varF 4) (con (varF 11) (nil)))))))) (retS (cF (.bl false))) (passS))
    (ifS (tst (varF 10)) (seqS (dropS (methF 2 1 m_Log_undo (varF 6) (nil)))
    (seqS (ifS (orT (tst (bin neG (propF 2 m_Log_promises (varF 6)) (varF 5))) (tst (bin neG (propF 2 m_Log_states (varF 6)) (callF 2 m_day_states (con (varF 4) (con (varF 5) (nil))))))) (retS (cF (.bl false))) (passS))
    (seqS (setS 12 (callF 2 m_law_log (con (varF 4) (con (varF 5) (nil)))))
    (ifS (orT (tst (bin isntG (callF 2 m_law_tried (con (varF 12) (con (revT (varF 7)) (nil)))) (cF (.bl true)))) (tst (bin neG (propF 2 m_Log_states (varF 12)) (callF 2 m_day_states (con (varF 4) (con (varF 11) (nil))))))) (retS (cF (.bl false))) (passS))))) (passS))))))))))))
noncomputable def b_law_k17 : SF :=
    seqS (setS 1 (ownE (con (fnB listF (con (varF 0) (nil))) (con (cF (.int 0)) (con (cF (.int 0)) (nil))))))
    (seqS (forS (rng1F (con (cF (.int 5)) (nil))) (nameG 2) (l_law_k17_2))
    (retS (cF (.bl true))))
noncomputable def m_law_k17 : FF := fnF N_law_k17 1 b_law_k17
/-! _law_ends_right -/
def N_law_ends_right : List Str := ["tape", "row", "known", "promises", "many", "start", "count", "ends", "due", "total", "end", "sure"]
noncomputable def l_law_ends_right_1 : SF :=
    setS 9 (bin addG (varF 9) (callF 2 m_count_rows (con (varF 2) (con (bin addG (varF 3) (tupE (con (tupE (con (cF (.str [111, 110])) (con (varF 5) (con (varF 6) (con (varF 10) (nil)))))) (nil)))) (nil)))))
noncomputable def b_law_ends_right : SF :=
    seqS (parS 5 6 (con (bin subG (callF 2 m_law_draw (con (varF 0) (con (fnB lenG (con (varF 1) (nil))) (nil)))) (cF (.int 1))) (con (bin addG (cF (.int 1)) (callF 2 m_law_draw (con (varF 0) (con (fnB minG (con (cF (.int 4)) (con (fnB lenG (con (varF 1) (nil))) (nil)))) (nil))))) (nil))))
    (seqS (setS 7 (callF 4 m_possible_ends (con (varF 2) (con (varF 3) (con (varF 5) (con (varF 6) (nil)))))))
    (seqS (setS 8 (callF 3 m_law_due (con (varF 1) (con (varF 5) (con (varF 6) (nil))))))
    (seqS (ifS (andT (tst (bin ltG (varF 8) (fnB lenG (con (varF 1) (nil))))) (tst (bin ninG (varF 8) (varF 7)))) (retS (cF (.bl false))) (passS))
    (seqS (setS 9 (cF (.int 0)))
    (seqS (forS (walkF (varF 7)) (nameG 10) (l_law_ends_right_1))
    (seqS (setS 11 (callF 3 m_follows (con (varF 2) (con (varF 3) (con (tupE (con (cF (.str [98, 121])) (con (varF 5) (con (varF 6) (con (bin subG (fnB lenG (con (varF 1) (nil))) (cF (.int 1))) (nil)))))) (nil))))))
    (retS (andE (chain leG leG (cF (.int 0)) (varF 9) (varF 4)) (bin eqG (varF 11) (bin eqG (varF 9) (varF 4)))))))))))
noncomputable def m_law_ends_right : FF := fnF N_law_ends_right 5 b_law_ends_right
/-! law -/
def N_law_k19 : List Str := ["script", "tape", "turn", "row", "known", "promises", "states", "many", "low", "high", "own", "day", "count_so", "index", "few", "most", "week"]
noncomputable def l_law_k19_1 : SF :=
    seqS (setS 12 (meB' isStr cntG (slF slG (varF 10) noP (parF (bin addG (varF 11) (cF (.int 1))))) (con (cF (.str [119])) (nil))))
    (ifS (notT (tst (chain leG leG (meB' isStr cntG (slF slG (varF 8) noP (parF (bin addG (varF 11) (cF (.int 1))))) (con (cF (.str [119])) (nil))) (varF 12) (meB' isStr cntG (slF slG (varF 9) noP (parF (bin addG (varF 11) (cF (.int 1))))) (con (cF (.str [119])) (nil)))))) (retS (cF (.bl false))) (passS))
noncomputable def l_law_k19_2 : SF :=
    ifS (tst (bin neG (callF 2 m_count_rows (con (varF 4) (con (bin addG (slF slG (varF 5) noP (parF (varF 13))) (slF slG (varF 5) (parF (bin addG (varF 13) (cF (.int 1)))) noP)) (nil)))) (varF 7))) (retS (cF (.bl false))) (passS)
noncomputable def l_law_k19_3 : SF :=
    seqS (setS 3 (callF 2 m_law_row (con (varF 1) (con (bin addG (cF (.int 4)) (callF 2 m_law_draw (con (varF 1) (con (cF (.int 11)) (nil))))) (nil)))))
    (seqS (setS 4 (callF 2 m_law_masked (con (varF 1) (con (varF 3) (nil)))))
    (seqS (setS 5 (fnB tupleG (con (compF (walkF (callF 3 m_law_promises (con (varF 1) (con (varF 3) (con (cF (.int 4)) (nil)))))) [10] (nameG 10) (tst (callF 2 m_law_keeps (con (varF 3) (con (varF 10) (nil))))) (varF 10)) (nil))))
    (seqS (setS 6 (callF 2 m_day_states (con (varF 4) (con (varF 5) (nil)))))
    (seqS (setS 7 (callF 2 m_count_rows (con (varF 4) (con (varF 5) (nil)))))
    (seqS (ifS (orT (tst (bin neG (callF 2 m_count_rows (con (varF 6) (con (varF 5) (nil)))) (varF 7))) (tst (bin neG (callF 2 m_day_states (con (varF 6) (con (varF 5) (nil)))) (varF 6)))) (retS (cF (.bl false))) (passS))
    (seqS (parS 8 9 (con (callF 2 m_least_row (con (varF 4) (con (varF 5) (nil)))) (con (callF 2 m_greatest_row (con (varF 4) (con (varF 5) (nil)))) (nil))))
    (seqS (ifS (orT (tst (bin neG (bin eqG (varF 7) (cF (.int 1))) (bin eqG (varF 8) (varF 9)))) (tst (bin neG (bin eqG (varF 7) (cF (.int 1))) (bin ninG (cF (.str [63])) (varF 6))))) (retS (cF (.bl false))) (passS))
    (seqS (setS 10 (callF 3 m_row_at (con (varF 4) (con (varF 5) (con (callF 2 m_law_draw (con (varF 1) (con (varF 7) (nil)))) (nil))))))
    (seqS (forS (rng1F (con (fnB lenG (con (varF 3) (nil))) (nil))) (nameG 11) (l_law_k19_1))
    (seqS (forOS (callF 2 m_needless (con (varF 4) (con (varF 5) (nil)))) (nameG 13) (l_law_k19_2))
    (seqS (parS 14 15 (con (callF 2 m_fewest_working (con (varF 4) (con (varF 5) (nil)))) (con (callF 2 m_most_working (con (varF 4) (con (varF 5) (nil)))) (nil))))
    (seqS (ifS (tst (bin neG (callF 4 m_number_range (con (varF 4) (con (varF 5) (con (cF (.int 0)) (con (bin subG (fnB lenG (con (varF 3) (nil))) (cF (.int 1))) (nil)))))) (tupE (con (varF 14) (con (varF 15) (nil)))))) (retS (cF (.bl false))) (passS))
    (seqS (ifS (notT (tst (callF 5 m_law_ends_right (con (varF 1) (con (varF 3) (con (varF 4) (con (varF 5) (con (varF 7) (nil))))))))) (retS (cF (.bl false))) (passS))
    (seqS (setS 16 (callF 2 m_law_row (con (varF 1) (con (cF (.int 7)) (nil)))))
    (ifS (tst (bin neG (callF 3 m_fewest_exceptions (con (varF 4) (con (varF 5) (con (varF 16) (nil))))) (callF 3 m_fewest_exceptions (con (varF 6) (con (varF 5) (con (varF 16) (nil))))))) (retS (cF (.bl false))) (passS))))))))))))))))
noncomputable def b_law_k19 : SF :=
    seqS (setS 1 (ownE (con (fnB listF (con (varF 0) (nil))) (con (cF (.int 0)) (con (cF (.int 0)) (nil))))))
    (seqS (forS (rng1F (con (cF (.int 3)) (nil))) (nameG 2) (l_law_k19_3))
    (retS (cF (.bl true))))
noncomputable def m_law_k19 : FF := fnF N_law_k19 1 b_law_k19
end Fl
set_option Elab.async false
set_option linter.all false
set_option maxRecDepth 100000
set_option maxHeartbeats 1000000
namespace Fl
open L2
/-! ### the tape -/
structure Tp where
  ns : List Int
  i : Int
  c : Int
def Tp.o (p : Tp) : SO := .lst [.lst (p.ns.map .int), .int p.i, .int p.c]
structure Tp.ok (p : Tp) : Prop where
  i0 : 0 ≤ p.i
  c0 : 0 ≤ p.c
theorem big_of {i : Int} (h : -(2 ^ 64) < i) (h2 : i < 2 ^ 64) : big i = true := by
  simp only [big, Bool.and_eq_true, decide_eq_true_eq]; exact ⟨h, h2⟩
def mix1 (x i : Int) : Int := (x + 1000003 * i) % 2305843009213693951
def mix2 (y : Int) : Int := (y * y + 1181783497276652981 * y + 2049848353892358983) % 2305843009213693951
def mix (x i : Int) : Int := (mix2 (mix1 x i) * mix2 (mix1 x i) + 1442695040888963407) % 2305843009213693951
theorem draw_spec {t : Nat} {s : Sto} {p : Tp} {many : Int} (hs : s[t]? = some p.o) (hp : p.ok) (h1 : 1 ≤ many) (h2 : many < 2 ^ 64) :
    ∃ v p', m_law_draw [.ob t, .int many] s = .val (.int v) (s.set t (Tp.o p')) ∧ p'.ok ∧ 0 ≤ v ∧ v < many := by
  obtain ⟨ns, i, c⟩ := p
  obtain ⟨i0, c0⟩ := hp
  simp only at i0 c0
  have ht : t < s.length := (List.getElem?_eq_some_iff.mp hs).1
  have hset : ∀ o : SO, (s.set t o)[t]? = some o := fun o => List.getElem?_set_self ht
  have hs' : s[t]? = some (.lst [.lst (ns.map .int), .int i, .int c]) := hs
  by_cases hc : c < many
  · have key : ∀ c1 : Int, 0 ≤ c1 → m_law_draw [.ob t, .int many] s = .val (.int (c1 % many)) (s.set t (Tp.o ⟨ns, i + 1, c1 / many⟩)) → ∃ v p', m_law_draw [.ob t, .int many] s = .val (.int v) (s.set t (Tp.o p')) ∧ p'.ok ∧ 0 ≤ v ∧ v < many :=
      fun c1 hc1 e => ⟨c1 % many, ⟨ns, i + 1, c1 / many⟩, e, ⟨by show 0 ≤ i + 1; omega, Int.ediv_nonneg hc1 (by omega)⟩, Int.emod_nonneg _ (by omega), Int.emod_lt_of_pos _ (by omega)⟩
    have pp : (0 : Int) < 2305843009213693951 := by decide
    have bm : ∀ x : Int, big (x % 2305843009213693951) = true := fun x => big_of (by have := Int.emod_nonneg x (Int.ne_of_gt pp); omega) (by have := Int.emod_lt_of_pos x pp; omega)
    have b1 : big 1000003 = true := by decide
    have b2 : big 1181783497276652981 = true := by decide
    have go : ∀ x : Int, (m_law_draw [.ob t, .int many] s = .val (.int (mix x i % many)) (s.set t (Tp.o ⟨ns, i + 1, mix x i / many⟩)) ∨ (1000000000000000000 ≤ x ∧ m_law_draw [.ob t, .int many] s = .val (.int (x % many)) (s.set t (Tp.o ⟨ns, i + 1, x / many⟩)))) → ∃ v p', m_law_draw [.ob t, .int many] s = .val (.int v) (s.set t (Tp.o p')) ∧ p'.ok ∧ 0 ≤ v ∧ v < many := fun x h => by
      rcases h with h | ⟨h0, h⟩
      · exact key _ (Int.emod_nonneg _ (by decide)) h
      · exact key x (by omega) h
    by_cases hn : ns = []
    · subst hn
      refine go 0 (.inl ?_)
      simp -implicitDefEqProofs [mix, mix1, mix2, m_law_draw, fnF, b_law_draw, N_law_draw, startD, hc, hs', modG_int (show 0 < many by omega), divG_int (show 0 < many by omega) h2, Tp.o, modG_int pp, mulG_l b1, mulG_l b2, mulG_l (bm _), hset]
    · have hl0 : 0 < ns.length := List.length_pos_iff.mpr hn
      have hl : (0 : Int) < (ns.length : Int) := by omega
      obtain ⟨x, hx⟩ : ∃ x, atI (ns.map D.int) (i % (ns.length : Int)) = some (.int x) := by
        have h3 := Int.emod_nonneg i (Int.ne_of_gt hl)
        have h4 := Int.emod_lt_of_pos i hl
        obtain ⟨k, hk⟩ := Int.eq_ofNat_of_zero_le h3
        have hk2 : k < ns.length := by omega
        refine ⟨ns[k], ?_⟩
        rw [hk]
        exact atI_nat (by rw [List.getElem?_map, List.getElem?_eq_getElem hk2]; rfl)
      refine go x ?_
      by_cases hq : (ns.length : Int) ≤ i
      · refine .inl ?_
        simp -implicitDefEqProofs [mix, mix1, mix2, m_law_draw, fnF, b_law_draw, N_law_draw, startD, hc, hs', modG_int (show 0 < many by omega), divG_int (show 0 < many by omega) h2, Tp.o, modG_int pp, mulG_l b1, mulG_l b2, mulG_l (bm _), hset, modG_int hl, ixG_lst hx, hl0, hq]
      · by_cases hr : x < 1000000000000000000
        · refine .inl ?_
          simp -implicitDefEqProofs [mix, mix1, mix2, m_law_draw, fnF, b_law_draw, N_law_draw, startD, hc, hs', modG_int (show 0 < many by omega), divG_int (show 0 < many by omega) h2, Tp.o, modG_int pp, mulG_l b1, mulG_l b2, mulG_l (bm _), hset, modG_int hl, ixG_lst hx, hl0, hq, hr]
        · refine .inr ⟨by omega, ?_⟩
          simp -implicitDefEqProofs [mix, mix1, mix2, m_law_draw, fnF, b_law_draw, N_law_draw, startD, hc, hs', modG_int (show 0 < many by omega), divG_int (show 0 < many by omega) h2, Tp.o, modG_int pp, mulG_l b1, mulG_l b2, mulG_l (bm _), hset, modG_int hl, ixG_lst hx, hl0, hq, hr]
  · refine ⟨c % many, ⟨ns, i, c / many⟩, ?_, ⟨i0, Int.ediv_nonneg c0 (by omega)⟩, Int.emod_nonneg _ (by omega), Int.emod_lt_of_pos _ (by omega)⟩
    simp -implicitDefEqProofs [m_law_draw, fnF, b_law_draw, N_law_draw, startD, hc, hs', modG_int (show 0 < many by omega), divG_int (show 0 < many by omega) h2, Tp.o]
/-- there is a tape at t | only the tape at t has turned -/
def Tap (t : Nat) (s : Sto) : Prop := ∃ p : Tp, p.ok ∧ s[t]? = some p.o
def Dr (t : Nat) (s s' : Sto) : Prop := ∃ p : Tp, p.ok ∧ s' = s.set t p.o
theorem Tap.refl {t : Nat} {s : Sto} (h : Tap t s) : Dr t s s := by
  obtain ⟨p, ok, e⟩ := h
  refine ⟨p, ok, ?_⟩
  obtain ⟨h1, h2⟩ := List.getElem?_eq_some_iff.mp e
  rw [← h2]; simp
theorem Tap.dr {t : Nat} {s s' : Sto} (h : Tap t s) (d : Dr t s s') : Tap t s' := by
  obtain ⟨p, ok, e⟩ := h
  obtain ⟨q, ok', rfl⟩ := d
  exact ⟨q, ok', List.getElem?_set_self (List.getElem?_eq_some_iff.mp e).1⟩
theorem Dr.trans {t : Nat} {s s1 s2 : Sto} (a : Dr t s s1) (b : Dr t s1 s2) : Dr t s s2 := by
  obtain ⟨p, ok, rfl⟩ := a
  obtain ⟨q, ok', rfl⟩ := b
  exact ⟨q, ok', by simp⟩
theorem Dr.len {t : Nat} {s s' : Sto} (a : Dr t s s') : s'.length = s.length := by
  obtain ⟨p, ok, rfl⟩ := a; simp
theorem Dr.take {t : Nat} {s s' : Sto} (a : Dr t s s') : s'.take s.length = s' := List.take_of_length_le (by rw [a.len]; exact Nat.le_refl _)
theorem Dr.chk {t : Nat} {s s' : Sto} (a : Dr t s s') : Chk s s' := by
  obtain ⟨p, ok, rfl⟩ := a
  exact Chk.set (by simp [Tp.o])
theorem Dr.get {t j : Nat} {s s' : Sto} (a : Dr t s s') (h : j ≠ t) : s'[j]? = s[j]? := by
  obtain ⟨p, ok, rfl⟩ := a
  rw [List.getElem?_set_ne (Ne.symm h)]
theorem draw {t : Nat} {s : Sto} {many : Int} (h : Tap t s) (h1 : 1 ≤ many) (h2 : many < 2 ^ 64) :
    ∃ v s', m_law_draw [.ob t, .int many] s = .val (.int v) s' ∧ Dr t s s' ∧ 0 ≤ v ∧ v < many := by
  obtain ⟨p, ok, e⟩ := h
  obtain ⟨v, p', h3, h4, h5, h6⟩ := draw_spec e ok h1 h2
  exact ⟨v, _, h3, ⟨p', h4, rfl⟩, h5, h6⟩
/-! ### loops -/
/-- one turn -/
def turn (g : GF) (body : SF) (x : D) (δ : Sl) (s : Sto) : OS := (noX (g x δ s)).go δ body
theorem loopS_cons {g : GF} {body : SF} {x : D} {xs : List D} {δ δ2 : Sl} {s s2 : Sto} (h : turn g body x δ s = .nx δ2 s2) : loopS g body (x :: xs) δ s = loopS g body xs δ2 s2 := by
  rw [loopS]
  unfold turn at h
  cases e : noX (g x δ s) with
  | stuck => rw [e] at h; cases h
  | exc c s' => rw [e] at h; cases h
  | val δ1 s1 =>
    rw [e, O.go_val] at h
    rw [O.go_val, h]
theorem loopS_rt {g : GF} {body : SF} {x d : D} {xs : List D} {δ : Sl} {s s2 : Sto} (h : turn g body x δ s = .rt d s2) : loopS g body (x :: xs) δ s = .rt d s2 := by
  rw [loopS]
  unfold turn at h
  cases e : noX (g x δ s) with
  | stuck => rw [e] at h; cases h
  | exc c s' => rw [e] at h; cases h
  | val δ1 s1 =>
    rw [e, O.go_val] at h
    rw [O.go_val, h]
@[simp] theorem loopS_nil {g : GF} {body : SF} {δ : Sl} {s : Sto} : loopS g body [] δ s = .nx δ s := rfl
theorem loop_inv {g : GF} {body : SF} {xs : List D} (I : Nat → Sl → Sto → Prop) (step : ∀ i x δ s, xs[i]? = some x → I i δ s → ∃ δ2 s2, turn g body x δ s = .nx δ2 s2 ∧ I (i + 1) δ2 s2) {δ : Sl} {s : Sto} (h : I 0 δ s) :
    ∃ δ' s', loopS g body xs δ s = .nx δ' s' ∧ I xs.length δ' s' := by
  have main : ∀ (ys : List D) (i : Nat) (δ : Sl) (s : Sto), i + ys.length = xs.length → (∀ j : Nat, ys[j]? = xs[i + j]?) → I i δ s → ∃ δ' s', loopS g body ys δ s = .nx δ' s' ∧ I xs.length δ' s' := by
    intro ys
    induction ys with
    | nil =>
      intro i δ s hl _ h
      have : i = xs.length := by simpa using hl
      subst this
      exact ⟨δ, s, rfl, h⟩
    | cons y ys ih =>
      intro i δ s hl hg h
      have h0 := hg 0
      simp at h0
      obtain ⟨δ2, s2, e2, h2⟩ := step i y δ s h0.symm h
      obtain ⟨δ', s', e3, h3⟩ := ih (i + 1) δ2 s2 (by simp at hl; omega) (fun j => by have := hg (j + 1); simp at this; rw [this]; congr 1; omega) h2
      exact ⟨δ', s', by rw [loopS_cons e2]; exact e3, h3⟩
  exact main xs 0 δ s (by simp) (fun j => by simp) h
theorem upI_get {lo : Int} {n i : Nat} {x : D} (h : (upI lo n)[i]? = some x) : x = .int (lo + (i : Int)) ∧ i < n := by
  unfold upI at h
  rw [List.getElem?_map] at h
  obtain ⟨j, h1, rfl⟩ := Option.map_eq_some_iff.mp h
  have hi : i < n := by have := (List.getElem?_eq_some_iff.mp h1).1; simpa using this
  rw [List.getElem?_range hi] at h1
  cases h1
  exact ⟨rfl, hi⟩
@[simp] theorem upI_len {lo : Int} {n : Nat} : (upI lo n).length = n := by simp [upI]
theorem loopC_pure {g : GF} {t : BF} {e : EF} {δ : Sl} {s : Sto} (p : D → Bool) (v : D → D) : ∀ (xs acc : List D), (∀ x ∈ xs, ∃ δ1, g x δ s = .val δ1 s ∧ t δ1 s = .val (p x) s ∧ (p x = true → e δ1 s = .val (v x) s ∧ flat (v x) = true)) → acc.length + xs.length ≤ 16000000 →
    loopC g t e δ xs acc s = .val (acc ++ (xs.filter p).map v) s
  | [], acc, _, _ => by simp
  | x :: xs, acc, h, hl => by
    obtain ⟨δ1, h1, h2, h3⟩ := h x (by simp)
    have ih := fun acc' hl' => loopC_pure p v xs acc' (fun y hy => h y (by simp [hy])) hl'
    simp only [List.length_cons] at hl
    rw [loopC_cons, h1, noX_val, O.bind_val, h2, quiet_val, O.bind_val]
    cases hp : p x with
    | false =>
      rw [if_neg (by decide), ih _ (by omega)]
      simp [hp]
    | true =>
      obtain ⟨h4, h5⟩ := h3 hp
      rw [if_pos rfl, h4, quiet_val, O.bind_val, if_pos ⟨h5, by omega⟩, ih _ (by simp; omega)]
      simp [hp]
/-! ### rows -/
def Row (r : List Nat) : Prop := ∀ c ∈ r, c = 119 ∨ c = 102
theorem sm_of {i : Int} (h : -(2 ^ 60) ≤ i) (h2 : i < 2 ^ 60) : sm i = true := by
  simp only [sm, Bool.and_eq_true, decide_eq_true_eq]; exact ⟨h, h2⟩
theorem row_spec {t : Nat} {s : Sto} {n : Int} (h : Tap t s) (h0 : 0 ≤ n) (h1 : n ≤ 1000) :
    ∃ r s', m_law_row [.ob t, .int n] s = .val (.str r) s' ∧ Dr t s s' ∧ (r.length : Int) = n ∧ Row r := by
  obtain ⟨v, s1, e1, d1, v0, v3⟩ := draw h (show (1 : Int) ≤ 3 by decide) (by decide)
  obtain ⟨m, hm, m0, m5⟩ : ∃ m : Int, atI ([.int 1, .int 2, .int 5] : List D) v = some (.int m) ∧ 1 ≤ m ∧ m ≤ 5 := by
    rcases (by omega : v = 0 ∨ v = 1 ∨ v = 2) with rfl | rfl | rfl
    · exact ⟨1, by simp, by decide, by decide⟩
    · exact ⟨2, by simp, by decide, by decide⟩
    · exact ⟨5, by simp, by decide, by decide⟩
  have T1 := h.dr d1
  obtain ⟨δ', s', e2, f, o, rfl, d2, hl, hr⟩ := loop_inv (g := nameG 4) (body := l_law_row_1) (xs := upI 0 n.toNat)
    (fun i δ s' => ∃ f o, δ = [some (.ob t), some (.int n), some (.int m), some (.str f), o] ∧ Dr t s1 s' ∧ f.length = i ∧ Row f)
    (fun i x δ s' hx hI => by
      obtain ⟨f, o, rfl, d, hl, hr⟩ := hI
      obtain ⟨rfl, hi⟩ := upI_get hx
      obtain ⟨u, s2, e, d', u0, u1⟩ := draw (many := m + 1) (T1.dr d) (by omega) (by omega)
      have hb : f.length + 1 ≤ 16000000 := by omega
      by_cases hu : u = 0
      · refine ⟨_, s2, ?_, f ++ [102], some (.int (0 + (i : Int))), rfl, d.trans d', by simp [hl], fun c hc => by rcases List.mem_append.mp hc with q | q; exact hr c q; simp at q; exact .inr q⟩
        simp -implicitDefEqProofs [turn, l_law_row_1, e, hu, addG_str, hb, ixG_str]
      · refine ⟨_, s2, ?_, f ++ [119], some (.int (0 + (i : Int))), rfl, d.trans d', by simp [hl], fun c hc => by rcases List.mem_append.mp hc with q | q; exact hr c q; simp at q; exact .inl q⟩
        simp -implicitDefEqProofs [turn, l_law_row_1, e, hu, addG_str, hb, ixG_str])
    (δ := [some (.ob t), some (.int n), some (.int m), some (.str []), none]) (s := s1) ⟨[], none, rfl, T1.refl, rfl, fun c hc => by simp at hc⟩
  refine ⟨f, s', ?_, d1.trans d2, by simp at hl; omega, hr⟩
  simp -implicitDefEqProofs [m_law_row, fnF, b_law_row, N_law_row, startD, e1, ixG_lst hm, sm_of (show -(2 ^ 60) ≤ n by omega) (by omega), e2, (d1.trans d2).take, (d1.trans d2).chk]
end Fl
set_option Elab.async false
set_option linter.all false
set_option maxRecDepth 100000
set_option maxHeartbeats 1000000
namespace Fl
open L2
/-! ### isinstance -/
def isTab (t T : String) : Bool := t == T || (t == "bool" && T == "int")
theorem kitB_tab : (["NoneType", "bool", "int", "str", "tuple", "list"].all fun t => ["bool", "int", "str", "tuple", "list"].all fun T => decide (kitB t T = some (isTab t T))) = true := by decide +kernel
theorem kitB_of {t T : String} (h1 : t ∈ ["NoneType", "bool", "int", "str", "tuple", "list"]) (h2 : T ∈ ["bool", "int", "str", "tuple", "list"]) : kitB t T = some (isTab t T) :=
  of_decide_eq_true (List.all_eq_true.mp (List.all_eq_true.mp kitB_tab t h1) T h2)
@[simp] theorem kitB_non_bool : kitB "NoneType" "bool" = some false := kitB_of (by simp) (by simp)
@[simp] theorem kitB_non_int : kitB "NoneType" "int" = some false := kitB_of (by simp) (by simp)
@[simp] theorem kitB_non_str : kitB "NoneType" "str" = some false := kitB_of (by simp) (by simp)
@[simp] theorem kitB_non_tup : kitB "NoneType" "tuple" = some false := kitB_of (by simp) (by simp)
@[simp] theorem kitB_non_lst : kitB "NoneType" "list" = some false := kitB_of (by simp) (by simp)
@[simp] theorem kitB_bool_bool : kitB "bool" "bool" = some true := kitB_of (by simp) (by simp)
@[simp] theorem kitB_bool_int : kitB "bool" "int" = some true := kitB_of (by simp) (by simp)
@[simp] theorem kitB_bool_str : kitB "bool" "str" = some false := kitB_of (by simp) (by simp)
@[simp] theorem kitB_bool_tup : kitB "bool" "tuple" = some false := kitB_of (by simp) (by simp)
@[simp] theorem kitB_bool_lst : kitB "bool" "list" = some false := kitB_of (by simp) (by simp)
@[simp] theorem kitB_int_bool : kitB "int" "bool" = some false := kitB_of (by simp) (by simp)
@[simp] theorem kitB_int_int : kitB "int" "int" = some true := kitB_of (by simp) (by simp)
@[simp] theorem kitB_int_str : kitB "int" "str" = some false := kitB_of (by simp) (by simp)
@[simp] theorem kitB_int_tup : kitB "int" "tuple" = some false := kitB_of (by simp) (by simp)
@[simp] theorem kitB_int_lst : kitB "int" "list" = some false := kitB_of (by simp) (by simp)
@[simp] theorem kitB_str_bool : kitB "str" "bool" = some false := kitB_of (by simp) (by simp)
@[simp] theorem kitB_str_int : kitB "str" "int" = some false := kitB_of (by simp) (by simp)
@[simp] theorem kitB_str_str : kitB "str" "str" = some true := kitB_of (by simp) (by simp)
@[simp] theorem kitB_str_tup : kitB "str" "tuple" = some false := kitB_of (by simp) (by simp)
@[simp] theorem kitB_str_lst : kitB "str" "list" = some false := kitB_of (by simp) (by simp)
@[simp] theorem kitB_tup_bool : kitB "tuple" "bool" = some false := kitB_of (by simp) (by simp)
@[simp] theorem kitB_tup_int : kitB "tuple" "int" = some false := kitB_of (by simp) (by simp)
@[simp] theorem kitB_tup_str : kitB "tuple" "str" = some false := kitB_of (by simp) (by simp)
@[simp] theorem kitB_tup_tup : kitB "tuple" "tuple" = some true := kitB_of (by simp) (by simp)
@[simp] theorem kitB_tup_lst : kitB "tuple" "list" = some false := kitB_of (by simp) (by simp)
@[simp] theorem kitB_lst_bool : kitB "list" "bool" = some false := kitB_of (by simp) (by simp)
@[simp] theorem kitB_lst_int : kitB "list" "int" = some false := kitB_of (by simp) (by simp)
@[simp] theorem kitB_lst_str : kitB "list" "str" = some false := kitB_of (by simp) (by simp)
@[simp] theorem kitB_lst_tup : kitB "list" "tuple" = some false := kitB_of (by simp) (by simp)
@[simp] theorem kitB_lst_lst : kitB "list" "list" = some true := kitB_of (by simp) (by simp)
@[simp] theorem isiG_one {s : Sto} {x : D} {T : String} : isiG s [x, .ty T] = (match isT (view s x) T with
    | some b => .val (.bl b) s
    | none => .stuck) := rfl
@[simp] theorem isiG_two {s : Sto} {x : D} {T U : String} : isiG s [x, .tup [.ty T, .ty U]] = (match isT (view s x) T with
    | some true => .val (.bl true) s
    | some false => (match isT (view s x) U with
      | some b => .val (.bl b) s
      | none => .stuck)
    | none => .stuck) := rfl
/-! ### like -/
/-- what == and isinstance are asked of -/
def plain : D → Bool
  | .ty _ => false
  | .ob _ => false
  | .scr _ => false
  | _ => true
mutual
def plainD : D → Bool
  | .tup ds => plainDs ds
  | .lst ds => plainDs ds
  | .ty _ => false
  | .ob _ => false
  | .scr _ => false
  | _ => true
def plainDs : List D → Bool
  | [] => true
  | d :: ds => plainD d && plainDs ds
end
mutual
theorem deq_refl : ∀ d : D, plainD d = true → deq d d = true
  | .non, _ => by simp
  | .bl _, _ => by simp
  | .int _, _ => by simp
  | .str _, _ => by simp
  | .tup ds, h => by rw [deq_tup]; exact deqs_refl ds (by rw [plainD] at h; exact h)
  | .lst ds, h => by rw [deq_lst]; exact deqs_refl ds (by rw [plainD] at h; exact h)
  | .scr _, h => by rw [plainD] at h; cases h
  | .ty _, h => by rw [plainD] at h; cases h
  | .ob _, h => by rw [plainD] at h; cases h
theorem deqs_refl : ∀ ds : List D, plainDs ds = true → deqs ds ds = true
  | [], _ => by simp
  | d :: ds, h => by
    rw [plainDs, Bool.and_eq_true] at h
    rw [deqs_cons, deq_refl d h.1, deqs_refl ds h.2]; rfl
end
mutual
/-- no bool within: == is equality -/
def noBl : D → Bool
  | .tup ds => noBls ds
  | .lst ds => noBls ds
  | .int _ => true
  | .str _ => true
  | .non => true
  | _ => false
def noBls : List D → Bool
  | [] => true
  | d :: ds => noBl d && noBls ds
end
mutual
theorem deq_iff : ∀ x y : D, noBl x = true → noBl y = true → (deq x y = true ↔ x = y)
  | .non, y, _, hy => by cases y <;> simp_all [deq, toPy, PySem.PyData.eqv, noBl]
  | .int i, y, _, hy => by cases y <;> simp_all [deq, toPy, PySem.PyData.eqv, noBl]
  | .str a, y, _, hy => by
    cases y with
    | str b => rw [deq_str]; simp
    | _ => simp_all [deq, toPy, PySem.PyData.eqv, noBl]
  | .tup xs, y, hx, hy => by
    cases y with
    | tup ys =>
      rw [noBl] at hx hy
      rw [deq_tup, deqs_iff xs ys hx hy]; simp
    | _ => simp_all [deq, toPy, PySem.PyData.eqv, noBl]
  | .lst xs, y, hx, hy => by
    cases y with
    | lst ys =>
      rw [noBl] at hx hy
      rw [deq_lst, deqs_iff xs ys hx hy]; simp
    | _ => simp_all [deq, toPy, PySem.PyData.eqv, noBl]
  | .bl _, _, h, _ => by rw [noBl] at h <;> first | cases h | (intros; contradiction)
  | .scr _, _, h, _ => by rw [noBl] at h <;> first | cases h | (intros; contradiction)
  | .ty _, _, h, _ => by rw [noBl] at h <;> first | cases h | (intros; contradiction)
  | .ob _, _, h, _ => by rw [noBl] at h <;> first | cases h | (intros; contradiction)
theorem deqs_iff : ∀ xs ys : List D, noBls xs = true → noBls ys = true → (deqs xs ys = true ↔ xs = ys)
  | [], [], _, _ => by simp
  | [], y :: ys, _, _ => by simp
  | x :: xs, [], _, _ => by simp
  | x :: xs, y :: ys, hx, hy => by
    rw [noBls, Bool.and_eq_true] at hx hy
    rw [deqs_cons, Bool.and_eq_true, deq_iff x y hx.1 hy.1, deqs_iff xs ys hx.2 hy.2]; simp
end
theorem dep_le_of_mem {d : D} {ds : List D} (h : d ∈ ds) : dep d ≤ deps ds := by
  induction ds with
  | nil => simp at h
  | cons x xs ih =>
    rw [deps_cons]
    rcases List.mem_cons.mp h with rfl | h
    · exact Nat.le_max_left _ _
    · exact Nat.le_trans (ih h) (Nat.le_max_right _ _)
theorem plain_of_mem {d : D} {ds : List D} (h : d ∈ ds) (p : plainDs ds = true) : plainD d = true := by
  induction ds with
  | nil => simp at h
  | cons x xs ih =>
    rw [plainDs, Bool.and_eq_true] at p
    rcases List.mem_cons.mp h with rfl | h
    · exact p.1
    · exact ih h p.2
theorem plain_flat {d : D} (h : plainD d = true) : flat d = true := by cases d <;> first | rfl | (rw [plainD] at h; cases h)
mutual
/-- data that _law_like walks through -/
def okD : D → Bool
  | .tup ds => decide (ds.length ≤ 1000000) && okDs ds
  | .lst ds => decide (ds.length ≤ 1000000) && okDs ds
  | .ty _ => false
  | .ob _ => false
  | .scr _ => false
  | _ => true
def okDs : List D → Bool
  | [] => true
  | d :: ds => okD d && okDs ds
end
theorem okDs_mem {d : D} {ds : List D} (h : d ∈ ds) (p : okDs ds = true) : okD d = true := by
  induction ds with
  | nil => simp at h
  | cons x xs ih =>
    rw [okDs, Bool.and_eq_true] at p
    rcases List.mem_cons.mp h with rfl | h
    · exact p.1
    · exact ih h p.2
mutual
theorem okD_plain : ∀ d : D, okD d = true → plainD d = true
  | .tup ds, h => by rw [okD, Bool.and_eq_true] at h; rw [plainD]; exact okDs_plain ds h.2
  | .lst ds, h => by rw [okD, Bool.and_eq_true] at h; rw [plainD]; exact okDs_plain ds h.2
  | .non, _ => by simp [plainD]
  | .bl _, _ => by simp [plainD]
  | .int _, _ => by simp [plainD]
  | .str _, _ => by simp [plainD]
  | .ty _, h => by rw [okD] at h; cases h
  | .ob _, h => by rw [okD] at h; cases h
  | .scr _, h => by rw [okD] at h; cases h
theorem okDs_plain : ∀ ds : List D, okDs ds = true → plainDs ds = true
  | [], _ => by simp [plainDs]
  | d :: ds, h => by
    rw [okDs, Bool.and_eq_true] at h
    rw [plainDs, okD_plain d h.1, okDs_plain ds h.2]; rfl
end
theorem view_flat {s : Sto} {d : D} (h : flat d = true) : view s d = d := by cases d <;> first | rfl | cases h
theorem look_view {s : Sto} {x : D} {d : D} (h : view s x = d) (f : flat d = true) : look s x = d := by
  cases x with
  | ob k =>
    cases e : s[k]? with
    | none => simp only [view, e] at h; subst h; cases f
    | some o =>
      cases o with
      | dead => simp only [view, e] at h; subst h; cases f
      | ins _ _ => simp only [view, e] at h; subst h; cases f
      | dic _ => simp only [view, e] at h; subst h; cases f
      | lst ds =>
        simp only [view, e] at h
        split at h
        · rw [look_ob e]; exact h
        · subst h; cases f
  | _ => exact h
theorem like_seq {k : Nat} {ds : List D} {x y : D} {s : Sto} (hl : ds.length ≤ 1000000) (hx : view s x = .lst ds ∨ view s x = .tup ds) (hy : view s y = view s x)
    (ih : ∀ d ∈ ds, flat d = true ∧ m_law_like_n k [d, d] s = .val (.bl true) s) : m_law_like_n (k + 1) [x, y] s = .val (.bl true) s := by
  have ix : ∀ i : Nat, (h : i < ds.length) → ixG s x (.int (i : Int)) = .val ds[i] s ∧ ixG s y (.int (i : Int)) = .val ds[i] s := by
    intro i h
    have e : atI ds (i : Int) = some ds[i] := atI_nat (List.getElem?_eq_getElem h)
    rcases hx with hx | hx <;> (have q1 := look_view hx rfl; have q2 := look_view (hy.trans hx) rfl; simp only [ixG, q1, q2, e]; exact ⟨trivial, trivial⟩)
  have comp : loopC (nameG 2) (notT (tst (callF 2 (m_law_like_n k) (con (bin ixG (varF 0) (varF 2)) (con (bin ixG (varF 1) (varF 2)) nil))))) (varF 2) [some x, some y, none] (upI 0 ds.length) [] s = .val [] s := by
    rw [loopC_pure (p := fun _ => false) (v := fun d => d)]
    · simp
    · intro z hz
      obtain ⟨i, hi⟩ := List.getElem?_of_mem hz
      obtain ⟨rfl, hi2⟩ := upI_get hi
      obtain ⟨h1, h2⟩ := ix i hi2
      refine ⟨[some x, some y, some (.int (0 + (i : Int)))], rfl, ?_, fun h => by cases h⟩
      have h3 := (ih ds[i] (List.getElem_mem hi2)).2
      simp [h1, h2, h3]
    · simp; omega
  have hs : sm ((ds.length : Nat) : Int) = true := sm_of (by omega) (by omega)
  have hlx : lenG s [x] = .val (.int ds.length) s := by rcases hx with hx | hx <;> simp only [lenG, look_view hx rfl]
  have hly : lenG s [y] = .val (.int ds.length) s := by rcases hx with hx | hx <;> simp only [lenG, look_view (hy.trans hx) rfl]
  rcases hx with hx | hx
  · simp -implicitDefEqProofs [m_law_like_n, fnF, b_law_like, N_law_like, startD, hx, hy, isT, tyD, hlx, hly, hs, wipeD, comp]
  · simp -implicitDefEqProofs [m_law_like_n, fnF, b_law_like, N_law_like, startD, hx, hy, isT, tyD, hlx, hly, hs, wipeD, comp]
theorem like_same : ∀ (k : Nat) (d x y : D) (s : Sto), okD d = true → dep d < k → k ≤ 50 → view s x = d → view s y = d → m_law_like_n k [x, y] s = .val (.bl true) s
  | 0, _, _, _, _, _, h, _, _, _ => by omega
  | k + 1, d, x, y, s, hp, hd, h6, hx, hy => by
    have seq : ∀ ds : List D, ds.length ≤ 1000000 → okDs ds = true → deps ds < k → ∀ e ∈ ds, flat e = true ∧ m_law_like_n k [e, e] s = .val (.bl true) s := fun ds hl h1 h2 e he => by
      have h3 := okDs_mem he h1
      have h4 := plain_flat (okD_plain e h3)
      exact ⟨h4, like_same k e e e s h3 (Nat.lt_of_le_of_lt (dep_le_of_mem he) h2) (by omega) (view_flat h4) (view_flat h4)⟩
    have dq := deq_refl d (okD_plain d hp)
    cases d with
    | lst ds =>
      rw [okD, Bool.and_eq_true, decide_eq_true_eq] at hp
      rw [dep_lst] at hd
      exact like_seq hp.1 (.inl hx) (hy.trans hx.symm) (seq ds hp.1 hp.2 (by omega))
    | tup ds =>
      rw [okD, Bool.and_eq_true, decide_eq_true_eq] at hp
      rw [dep_tup] at hd
      exact like_seq hp.1 (.inr hx) (hy.trans hx.symm) (seq ds hp.1 hp.2 (by omega))
    | non => simp -implicitDefEqProofs [m_law_like_n, fnF, b_law_like, N_law_like, startD, hx, hy, isT, tyD]
    | bl b => simp -implicitDefEqProofs [m_law_like_n, fnF, b_law_like, N_law_like, startD, hx, hy, isT, tyD]
    | int i => simp -implicitDefEqProofs [m_law_like_n, fnF, b_law_like, N_law_like, startD, hx, hy, isT, tyD]
    | str a => simp -implicitDefEqProofs [m_law_like_n, fnF, b_law_like, N_law_like, startD, hx, hy, isT, tyD]
    | ty _ => rw [okD] at hp; cases hp
    | ob _ => rw [okD] at hp; cases hp
    | scr _ => rw [okD] at hp; cases hp
end Fl
set_option Elab.async false
set_option linter.all false
set_option maxRecDepth 100000
set_option maxHeartbeats 1000000
namespace Fl
open L2
/-! ### loops that may end early -/
theorem loop_ret {g : GF} {body : SF} {xs : List D} (I : Nat → Sl → Sto → Prop) (R : D → Sto → Prop) (step : ∀ i x δ s, xs[i]? = some x → I i δ s → (∃ δ2 s2, turn g body x δ s = .nx δ2 s2 ∧ I (i + 1) δ2 s2) ∨ ∃ d s2, turn g body x δ s = .rt d s2 ∧ R d s2) {δ : Sl} {s : Sto} (h : I 0 δ s) :
    (∃ δ' s', loopS g body xs δ s = .nx δ' s' ∧ I xs.length δ' s') ∨ ∃ d s', loopS g body xs δ s = .rt d s' ∧ R d s' := by
  have main : ∀ (ys : List D) (i : Nat) (δ : Sl) (s : Sto), i + ys.length = xs.length → (∀ j : Nat, ys[j]? = xs[i + j]?) → I i δ s → (∃ δ' s', loopS g body ys δ s = .nx δ' s' ∧ I xs.length δ' s') ∨ ∃ d s', loopS g body ys δ s = .rt d s' ∧ R d s' := by
    intro ys
    induction ys with
    | nil =>
      intro i δ s hl _ h
      have : i = xs.length := by simpa using hl
      subst this
      exact .inl ⟨δ, s, rfl, h⟩
    | cons y ys ih =>
      intro i δ s hl hg h
      have h0 := hg 0
      simp at h0
      rcases step i y δ s h0.symm h with ⟨δ2, s2, e2, h2⟩ | ⟨d, s2, e2, h2⟩
      · rw [loopS_cons e2]
        exact ih (i + 1) δ2 s2 (by simp at hl; omega) (fun j => by have := hg (j + 1); simp at this; rw [this]; congr 1; omega) h2
      · exact .inr ⟨d, s2, loopS_rt e2, h2⟩
  exact main xs 0 δ s (by simp) (fun j => by simp) h
/-! ### due days -/
/-- day i works -/
def wk (r : List Nat) (i : Nat) : Bool := r[i]? == some 119
/-- the working days among the n days from lo -/
def cw (r : List Nat) (lo n : Nat) : Nat := ((List.range n).filter fun i => wk r (lo + i)).length
def wds (r : List Nat) (lo n : Nat) : List Nat := ((List.range n).filter fun i => wk r (lo + i)).map (lo + ·)
def dueR (r : List Nat) (lo c : Nat) : Nat := (wds r lo (r.length - lo))[c]?.getD r.length
theorem cw_succ {r : List Nat} {lo n : Nat} : cw r lo (n + 1) = cw r lo n + if wk r (lo + n) = true then 1 else 0 := by
  unfold cw
  rw [List.range_succ, List.filter_append, List.length_append]
  by_cases h : wk r (lo + n) = true <;> simp [h]
theorem range_split {n i : Nat} (h : i < n) : List.range n = List.range i ++ i :: (List.range (n - i - 1)).map (i + 1 + ·) := by
  obtain ⟨k, rfl⟩ : ∃ k, n = i + (k + 1) := ⟨n - i - 1, by omega⟩
  rw [show i + (k + 1) - i - 1 = k by omega, List.range_add, List.range_succ_eq_map]
  simp [Function.comp_def]; intro a _; omega
theorem wds_len {r : List Nat} {lo n : Nat} : (wds r lo n).length = cw r lo n := by simp [wds, cw]
theorem wds_at {r : List Nat} {lo n i : Nat} (h : i < n) (hw : wk r (lo + i) = true) : (wds r lo n)[cw r lo i]? = some (lo + i) := by
  unfold wds
  rw [range_split h, List.filter_append, List.map_append, List.getElem?_append_right (by simp [cw])]
  simp [cw, hw]
theorem dueR_at {r : List Nat} {lo i c : Nat} (h : lo + i < r.length) (hw : wk r (lo + i) = true) (hc : cw r lo i = c) : dueR r lo c = lo + i := by
  subst hc
  rw [dueR, wds_at (by omega) hw]; rfl
theorem dueR_none {r : List Nat} {lo c : Nat} (hc : cw r lo (r.length - lo) ≤ c) : dueR r lo c = r.length := by
  rw [dueR, List.getElem?_eq_none (by rw [wds_len]; exact hc)]; rfl
theorem row_at {r : List Nat} (hr : Row r) {i : Nat} (h : i < r.length) : ∃ c, r[i]? = some c ∧ (c == 119) = wk r i := by
  refine ⟨r[i], List.getElem?_eq_getElem h, ?_⟩
  rw [wk, List.getElem?_eq_getElem h]; simp
theorem law_due_spec {r : List Nat} {lo c : Nat} {s : Sto} (hl : r.length ≤ 1000) (hr : Row r) (hlo : lo ≤ 1000) :
    m_law_due [.str r, .int ((lo : Int) - 1), .int ((c : Int) + 1)] s = .val (.int (dueR r lo c)) s := by
  have hL : lenG s [.str r] = .val (.int r.length) s := lenG_str (by omega)
  have e : ((r.length : Int) - (lo : Int)).toNat = r.length - lo := by omega
  have e1 : sm (lo : Int) = true := sm_of (by omega) (by omega)
  have e2 : sm (r.length : Int) = true := sm_of (by omega) (by omega)
  have e3 : (lo : Int) - 1 + 1 = lo := by omega
  have e4 : (c : Int) + 1 - 1 = c := by omega
  have comp : ∀ o, loopC (nameG 4) (tst (bin eqG (bin ixG (varF 0) (varF 4)) (cF (.str [119])))) (varF 4) [some (.str r), some (.int ((lo : Int) - 1)), some (.int ((c : Int) + 1)), none, o] (upI lo (r.length - lo)) [] s = .val ((wds r lo (r.length - lo)).map fun (i : Nat) => .int i) s := by
    intro o
    rw [loopC_pure (p := fun d => match d with | .int i => wk r i.toNat | _ => false) (v := fun d => d)]
    · have e6 : ∀ x : Nat, ((lo : Int) + (x : Int)).toNat = lo + x := fun x => by omega
      simp [upI, wds, List.filter_map, Function.comp_def, e6]
    · intro z hz
      obtain ⟨i, hi⟩ := List.getElem?_of_mem hz
      obtain ⟨rfl, hi2⟩ := upI_get hi
      obtain ⟨ch, hc1, hc2⟩ := row_at hr (show lo + i < r.length by omega)
      have hix : ixG s (.str r) (.int ((lo : Int) + (i : Int))) = .val (.str [ch]) s := ixG_str (by omega) (by rw [← Int.natCast_add]; exact atI_nat hc1)
      have e5 : ((lo : Int) + (i : Int)).toNat = lo + i := by omega
      refine ⟨_, rfl, ?_, fun _ => ⟨rfl, rfl⟩⟩
      simp -implicitDefEqProofs [hix, e5, ← hc2]
    · simp; omega
  have hb : (wds r lo (r.length - lo)).length ≤ r.length := by rw [wds_len, cw]; exact Nat.le_trans (List.length_filter_le _ _) (by simp)
  by_cases h : c < (wds r lo (r.length - lo)).length
  · have h1 : (c : Int) + 1 ≤ (wds r lo (r.length - lo)).length := by omega
    have h2 := List.getElem?_eq_getElem h
    have h3 : dueR r lo c = (wds r lo (r.length - lo))[c] := by rw [dueR, h2]; rfl
    have h4 : ixG s (.lst ((wds r lo (r.length - lo)).map fun (i : Nat) => .int i)) (.int c) = .val (.int (wds r lo (r.length - lo))[c]) s := ixG_lst (atI_nat (by rw [List.getElem?_map, h2]; rfl))
    simp -implicitDefEqProofs [m_law_due, fnF, b_law_due, N_law_due, startD, hL, e, e1, e2, e3, e4, comp, wipeD, h1, h4, h3]
  · have h1 : ¬ (c : Int) + 1 ≤ (wds r lo (r.length - lo)).length := by omega
    have h3 : dueR r lo c = r.length := by rw [dueR, List.getElem?_eq_none (by omega)]; rfl
    simp -implicitDefEqProofs [m_law_due, fnF, b_law_due, N_law_due, startD, hL, e, e1, e2, e3, e4, comp, wipeD, h1, h3]
end Fl
set_option Elab.async false
set_option linter.all false
namespace Fl
/-! ### tables of differences, plain -/
abbrev Tb := Nat → Nat → Int
def rlx (T : Tb) (i j : Nat) (v : Int) : Tb := fun a b => if a = i ∧ b = j then v else T a b
def stp (k i j : Nat) (T : Tb) : Tb := if T i k + T k j < T i j then rlx T i j (T i k + T k j) else T
def rowP (k i : Nat) : Nat → Tb → Tb
  | 0, T => T
  | n + 1, T => stp k i n (rowP k i n T)
def phase (N k : Nat) : Nat → Tb → Tb
  | 0, T => T
  | n + 1, T => rowP k n N (phase N k n T)
def fw (N : Nat) : Nat → Tb → Tb
  | 0, T => T
  | n + 1, T => phase N n N (fw N n T)
theorem stp_le (k i j : Nat) (T : Tb) (a b : Nat) : stp k i j T a b ≤ T a b := by
  unfold stp rlx
  split
  · simp only; split
    · rename_i h e; rw [e.1, e.2]; omega
    · omega
  · omega
theorem rowP_le (k i : Nat) : ∀ (n : Nat) (T : Tb) (a b : Nat), rowP k i n T a b ≤ T a b
  | 0, _, _, _ => Int.le_refl _
  | n + 1, T, a, b => Int.le_trans (stp_le k i n _ a b) (rowP_le k i n T a b)
theorem phase_le (N k : Nat) : ∀ (n : Nat) (T : Tb) (a b : Nat), phase N k n T a b ≤ T a b
  | 0, _, _, _ => Int.le_refl _
  | n + 1, T, a, b => Int.le_trans (rowP_le k n N _ a b) (phase_le N k n T a b)
theorem fw_le (N : Nat) : ∀ (n : Nat) (T : Tb) (a b : Nat), fw N n T a b ≤ T a b
  | 0, _, _, _ => Int.le_refl _
  | n + 1, T, a, b => Int.le_trans (phase_le N n N _ a b) (fw_le N n T a b)
/-- P keeps all bounds -/
def Sat (N : Nat) (P : Nat → Int) (T : Tb) : Prop := ∀ a b, a < N → b < N → P b - P a ≤ T a b
theorem stp_sat {N k i j : Nat} {P : Nat → Int} {T : Tb} (hk : k < N) (hi : i < N) (hj : j < N) (h : Sat N P T) : Sat N P (stp k i j T) := by
  intro a b ha hb
  unfold stp rlx
  split
  · simp only; split
    · rename_i _ e
      rw [e.1, e.2]
      have h1 := h i k hi hk
      have h2 := h k j hk hj
      omega
    · exact h a b ha hb
  · exact h a b ha hb
theorem rowP_sat {N k i : Nat} {P : Nat → Int} (hk : k < N) (hi : i < N) : ∀ (n : Nat) {T : Tb}, n ≤ N → Sat N P T → Sat N P (rowP k i n T)
  | 0, _, _, h => h
  | n + 1, T, hn, h => stp_sat hk hi hn (rowP_sat hk hi n (by omega) h)
theorem phase_sat {N k : Nat} {P : Nat → Int} (hk : k < N) : ∀ (n : Nat) {T : Tb}, n ≤ N → Sat N P T → Sat N P (phase N k n T)
  | 0, _, _, h => h
  | n + 1, T, hn, h => rowP_sat hk hn N (Nat.le_refl _) (phase_sat hk n (by omega) h)
theorem fw_sat {N : Nat} {P : Nat → Int} : ∀ (n : Nat) {T : Tb}, n ≤ N → Sat N P T → Sat N P (fw N n T)
  | 0, _, _, h => h
  | n + 1, T, hn, h => phase_sat hn N (Nat.le_refl _) (fw_sat n (by omega) h)
def thr (S : Tb) (k a b : Nat) : Int := min (S a b) (S a k + S k b)
theorem rowP_eq {N k i : Nat} {S : Tb} (h : 0 ≤ S k k) {T : Tb} (hi : ∀ b, T i b = S i b) (hk : ∀ b, T k b = if k < i then thr S k k b else S k b) (hik : i ≠ k ∨ True) :
    ∀ (n : Nat) (a b : Nat), rowP k i n T a b = if a = i ∧ b < n then thr S k i b else T a b
  | 0, a, b => by simp [rowP]
  | n + 1, a, b => by
    have ih := rowP_eq (N := N) h hi hk hik n
    have kk : ∀ b, thr S k k b = S k b := fun b => by unfold thr; omega
    have hk' : ∀ b, T k b = S k b := fun b => by rw [hk, kk]; split <;> rfl
    have e1 : rowP k i n T i k = S i k := by
      rw [ih, hi]; split
      · unfold thr; omega
      · rfl
    have e2 : rowP k i n T k n = S k n := by
      rw [ih, hk']; split
      · rename_i q; rw [← q.1]
        have := kk n
        rw [q.1] at this ⊢
        simpa using this
      · rfl
    have e3 : rowP k i n T i n = S i n := by rw [ih, if_neg (by omega), hi]
    show stp k i n (rowP k i n T) a b = _
    unfold stp
    rw [e1, e2, e3]
    by_cases hc : S i k + S k n < S i n
    · rw [if_pos hc]
      unfold rlx
      by_cases q : a = i ∧ b = n
      · rw [if_pos q, if_pos ⟨q.1, by omega⟩, q.2]; unfold thr; omega
      · rw [if_neg q, ih]
        by_cases q2 : a = i ∧ b < n
        · rw [if_pos q2, if_pos ⟨q2.1, by omega⟩]
        · rw [if_neg q2, if_neg (by rintro ⟨z1, z2⟩; exact q ⟨z1, by omega⟩)]
    · rw [if_neg hc, ih]
      by_cases q2 : a = i ∧ b < n
      · rw [if_pos q2, if_pos ⟨q2.1, by omega⟩]
      · rw [if_neg q2]
        by_cases q : a = i ∧ b < n + 1
        · have : b = n := by omega
          rw [if_pos q, q.1, this, hi]; unfold thr; omega
        · rw [if_neg q]
theorem phase_eq {N k : Nat} {S : Tb} (h : 0 ≤ S k k) (hk : k < N) : ∀ (n : Nat) (a b : Nat), phase N k n S a b = if a < n ∧ b < N then thr S k a b else S a b
  | 0, a, b => by simp [phase]
  | n + 1, a, b => by
    have ih := phase_eq h hk n
    have kk : ∀ b, thr S k k b = S k b := fun b => by unfold thr; omega
    show rowP k n N (phase N k n S) a b = _
    rw [rowP_eq (N := N) h (T := phase N k n S) (fun b => by rw [ih, if_neg (by omega)]) (fun b => by
      rw [ih]
      by_cases q : k < n
      · rw [if_pos q]
        split
        · rfl
        · rw [kk]
      · rw [if_neg q, if_neg (by omega)]) (.inr trivial), ih]
    by_cases q : a = n ∧ b < N
    · rw [if_pos q, if_pos ⟨by omega, q.2⟩, q.1]
    · rw [if_neg q]
      by_cases q2 : a < n ∧ b < N
      · rw [if_pos q2, if_pos ⟨by omega, q2.2⟩]
      · rw [if_neg q2, if_neg (by omega)]
def Clo (N m : Nat) (T : Tb) : Prop := ∀ a b, a < N → b < N → T a b ≤ T a m + T m b
theorem fw_clo {N : Nat} {T : Tb} : ∀ n : Nat, n ≤ N → (∀ a, a < N → 0 ≤ fw N n T a a) → ∀ m, m < n → Clo N m (fw N n T)
  | 0, _, _, m, hm => by omega
  | n + 1, hn, hd, m, hm => by
    have hn' : n < N := hn
    have hd' : ∀ a, a < N → 0 ≤ fw N n T a a := fun a ha => Int.le_trans (hd a ha) (phase_le N n N _ a a)
    have ih := fw_clo n (by omega) hd'
    intro a b ha hb
    show phase N n N (fw N n T) a b ≤ phase N n N (fw N n T) a m + phase N n N (fw N n T) m b
    generalize fw N n T = S at ih hd'
    have hmN : m < N := by omega
    rw [phase_eq (hd' n hn') hn', phase_eq (hd' n hn') hn', phase_eq (hd' n hn') hn', if_pos ⟨ha, hb⟩, if_pos ⟨ha, hmN⟩, if_pos ⟨hmN, hb⟩]
    have hnn := hd' n hn'
    unfold thr
    by_cases e : m = n
    · subst e; omega
    · have c1 := ih m (by omega) a b ha hb
      have c2 := ih m (by omega) n b hn' hb
      have c3 := ih m (by omega) a n ha hn'
      have c4 := ih m (by omega) n n hn' hn'
      omega
/-- no row, or all ways -/
structure Closed (N : Nat) (T : Tb) : Prop where
  tri : ∀ a m b, a < N → m < N → b < N → T a b ≤ T a m + T m b
  dia : ∀ a, a < N → T a a = 0
theorem fw_closed {N : Nat} {T : Tb} (h0 : ∀ a, a < N → T a a = 0) (hd : ∀ a, a < N → 0 ≤ fw N N T a a) : Closed N (fw N N T) :=
  ⟨fun a m b ha hm hb => fw_clo N (Nat.le_refl _) hd m hm a b ha hb, fun a ha => by have := fw_le N N T a a; have := hd a ha; have := h0 a ha; omega⟩
/-- each number between is met -/
theorem Closed.meet {N : Nat} {T : Tb} (h : Closed N T) {i j : Nat} (hi : i < N) (hj : j < N) {v : Int} (h1 : -T j i ≤ v) (h2 : v ≤ T i j) : ∃ P : Nat → Int, Sat N P T ∧ P i = 0 ∧ P j = v := by
  refine ⟨fun m => min (T i m) (v + T j m), fun a b ha hb => ?_, ?_, ?_⟩
  · have c1 := h.tri i a b hi ha hb
    have c2 := h.tri j a b hj ha hb
    simp only
    omega
  · have := h.dia i hi
    simp only; omega
  · have := h.dia j hj
    simp only; omega
theorem Sat.shift {N : Nat} {P : Nat → Int} {T : Tb} (h : Sat N P T) (c : Int) : Sat N (fun m => P m - c) T := fun a b ha hb => by
  have := h a b ha hb
  simp only; omega
theorem Sat.le {N : Nat} {P : Nat → Int} {T T' : Tb} (h : Sat N P T) (l : ∀ a b, T a b ≤ T' a b) : Sat N P T' := fun a b ha hb => Int.le_trans (h a b ha hb) (l a b)
end Fl
set_option Elab.async false
set_option linter.all false
namespace Fl
/-! ### rows by their numbers -/
def pc (r : List Nat) : Nat → Nat
  | 0 => 0
  | j + 1 => pc r j + if wk r j = true then 1 else 0
theorem cw_pc (r : List Nat) (lo : Nat) : ∀ n, pc r lo + cw r lo n = pc r (lo + n)
  | 0 => by simp [cw]
  | n + 1 => by
    have := cw_pc r lo n
    rw [cw_succ, show lo + (n + 1) = lo + n + 1 by omega, pc]; omega
theorem pc_mono (r : List Nat) {i j : Nat} (h : i ≤ j) : pc r i ≤ pc r j := by
  have := cw_pc r i (j - i)
  rw [show i + (j - i) = j by omega] at this; omega
theorem pc_succ (r : List Nat) (j : Nat) : pc r (j + 1) = pc r j + if wk r j = true then 1 else 0 := rfl
theorem pc_step (r : List Nat) (j : Nat) : pc r (j + 1) ≤ pc r j + 1 := by rw [pc_succ]; split <;> omega
theorem pc_lip (r : List Nat) (i : Nat) : ∀ n, pc r (i + n) ≤ pc r i + n
  | 0 => Nat.le_refl _
  | n + 1 => by have := pc_lip r i n; have := pc_step r (i + n); rw [show i + (n + 1) = i + n + 1 by omega]; omega
theorem cw_find (r : List Nat) (lo c : Nat) : ∀ n, c < cw r lo n → ∃ i, i < n ∧ wk r (lo + i) = true ∧ cw r lo i = c
  | 0, h => by simp [cw] at h
  | n + 1, h => by
    by_cases q : c < cw r lo n
    · obtain ⟨i, h1, h2⟩ := cw_find r lo c n q
      exact ⟨i, by omega, h2⟩
    · rw [cw_succ] at h
      split at h
      · rename_i w; exact ⟨n, by omega, w, by omega⟩
      · omega
theorem dueR_lt {r : List Nat} {lo c e : Nat} (h1 : lo ≤ e) (h2 : e ≤ r.length) : dueR r lo c < e ↔ c < cw r lo (e - lo) := by
  constructor
  · intro h
    refine Classical.byContradiction fun q => ?_
    by_cases z : c < cw r lo (r.length - lo)
    · obtain ⟨i, a1, a2, a3⟩ := cw_find r lo c _ z
      rw [dueR_at (by omega) a2 a3] at h
      have b1 := cw_pc r lo i
      have b2 := cw_pc r lo (e - lo)
      have b3 := pc_mono r (show lo + (i + 1) ≤ lo + (e - lo) by omega)
      have b4 := cw_pc r lo (i + 1)
      have b5 := @cw_succ r lo i
      rw [if_pos a2] at b5
      omega
    · rw [dueR_none (by omega)] at h; omega
  · intro h
    obtain ⟨i, a1, a2, a3⟩ := cw_find r lo c _ h
    rw [dueR_at (by omega) a2 a3]; omega
/-! ### promises -/
def kOn : List Nat := [111, 110]
def kBy : List Nat := [98, 121]
def kFrom : List Nat := [102, 114, 111, 109]
structure Pr where
  k : List Nat
  s : Nat
  c : Nat
  e : Nat
def Pr.d (p : Pr) : D := .tup [.str p.k, .int ((p.s : Int) - 1), .int ((p.c : Int) + 1), .int (p.e : Int)]
structure Pr.ok (n : Nat) (p : Pr) : Prop where
  kd : p.k = kOn ∨ p.k = kBy ∨ p.k = kFrom
  se : p.s ≤ p.e
  en : p.e < n
  cn : p.c < n
def keepsP (r : List Nat) (p : Pr) : Bool := if p.k = kBy then decide (dueR r p.s p.c ≤ p.e) else if p.k = kFrom then decide (p.e ≤ dueR r p.s p.c) else dueR r p.s p.c == p.e
/-- by the numbers up to each day -/
def Okp (P : Nat → Int) (p : Pr) : Prop := (p.k ≠ kFrom → P p.s - P (p.e + 1) ≤ -((p.c : Int) + 1)) ∧ (p.k ≠ kBy → P p.e - P p.s ≤ p.c)
def Pn (r : List Nat) (j : Nat) : Int := (pc r j : Int)
theorem keeps_okp {r : List Nat} {n : Nat} {p : Pr} (hl : r.length = n) (h : p.ok n) : keepsP r p = true ↔ Okp (Pn r) p := by
  have h1 := dueR_lt (r := r) (lo := p.s) (c := p.c) (e := p.e + 1) (by have := h.se; omega) (by have := h.en; omega)
  have h2 := dueR_lt (r := r) (lo := p.s) (c := p.c) (e := p.e) h.se (by have := h.en; omega)
  have b1 := cw_pc r p.s (p.e + 1 - p.s)
  have b2 := cw_pc r p.s (p.e - p.s)
  have hse := h.se
  rw [show p.s + (p.e + 1 - p.s) = p.e + 1 by omega] at b1
  rw [show p.s + (p.e - p.s) = p.e by omega] at b2
  have ne1 : kBy ≠ kFrom := by decide
  have ne2 : kOn ≠ kFrom := by decide
  have ne3 : kOn ≠ kBy := by decide
  unfold keepsP Okp Pn
  rcases h.kd with q | q | q
  · rw [q, if_neg ne3, if_neg ne2]
    simp only [beq_iff_eq]
    constructor
    · intro z; exact ⟨fun _ => by omega, fun _ => by omega⟩
    · rintro ⟨z1, z2⟩
      have := z1 ne2
      have := z2 ne3
      omega
  · rw [q, if_pos rfl]
    simp only [decide_eq_true_eq]
    constructor
    · intro z; exact ⟨fun _ => by omega, fun z => absurd rfl z⟩
    · rintro ⟨z1, z2⟩
      have := z1 ne1
      omega
  · rw [q, if_neg (Ne.symm ne1), if_pos rfl]
    simp only [decide_eq_true_eq]
    constructor
    · intro z; exact ⟨fun z => absurd rfl z, fun _ => by omega⟩
    · rintro ⟨z1, z2⟩
      have := z2 (Ne.symm ne1)
      omega
/-! ### known days, rows that fit -/
def Kn (k : List Nat) : Prop := ∀ c ∈ k, c = 119 ∨ c = 102 ∨ c = 63
structure Fits (k : List Nat) (ps : List Pr) (r : List Nat) : Prop where
  row : Row r
  len : r.length = k.length
  day : ∀ d : Nat, d < k.length → k[d]? = some 63 ∨ k[d]? = r[d]?
  kp : ∀ p ∈ ps, keepsP r p = true
/-! ### the first bounds -/
def zeroT : Tb := fun a b => if a = b then 0 else 99
def dayT (k : List Nat) : Nat → Tb
  | 0 => zeroT
  | d + 1 => rlx (rlx (dayT k d) d (d + 1) (if k[d]? = some 102 then 0 else 1)) (d + 1) d (if k[d]? = some 119 then -1 else 0)
def byT (p : Pr) (T : Tb) : Tb := if p.k = kFrom then T else rlx T (p.e + 1) p.s (min (T (p.e + 1) p.s) (-((p.c : Int) + 1)))
def frT (p : Pr) (T : Tb) : Tb := if p.k = kBy then T else rlx T p.s p.e (min (T p.s p.e) (p.c : Int))
def prT (p : Pr) (T : Tb) : Tb := frT p (byT p T)
def prsT : List Pr → Tb → Tb
  | [], T => T
  | p :: ps, T => prsT ps (prT p T)
def firstT (k : List Nat) (ps : List Pr) : Tb := prsT ps (dayT k k.length)
theorem rlx_at (T : Tb) (i j : Nat) (v : Int) : rlx T i j v i j = v := by unfold rlx; simp
theorem rlx_ne (T : Tb) {i j a b : Nat} (v : Int) (h : ¬ (a = i ∧ b = j)) : rlx T i j v a b = T a b := by unfold rlx; simp only [if_neg h]
theorem rlx_min_sat {N i j : Nat} {v : Int} {P : Nat → Int} {T : Tb} (hi : i < N) (hj : j < N) : Sat N P (rlx T i j (min (T i j) v)) ↔ Sat N P T ∧ P j - P i ≤ v := by
  constructor
  · intro h
    refine ⟨fun a b ha hb => ?_, ?_⟩
    · have := h a b ha hb
      unfold rlx at this
      split at this
      · rename_i e; rw [e.1, e.2] at this ⊢; omega
      · exact this
    · have := h i j hi hj
      unfold rlx at this
      rw [if_pos ⟨rfl, rfl⟩] at this; omega
  · rintro ⟨h, hv⟩ a b ha hb
    unfold rlx
    split
    · rename_i e; rw [e.1, e.2]; have := h i j hi hj; omega
    · exact h a b ha hb
theorem prT_sat {n : Nat} {P : Nat → Int} {T : Tb} {p : Pr} (h : p.ok n) : Sat (n + 1) P (prT p T) ↔ Sat (n + 1) P T ∧ Okp P p := by
  have hse := h.se
  have hen := h.en
  have key : ∀ T, Sat (n + 1) P (byT p T) ↔ Sat (n + 1) P T ∧ (p.k ≠ kFrom → P p.s - P (p.e + 1) ≤ -((p.c : Int) + 1)) := fun T => by
    unfold byT
    by_cases q : p.k = kFrom
    · rw [if_pos q]; exact ⟨fun z => ⟨z, fun y => absurd q y⟩, fun z => z.1⟩
    · rw [if_neg q, rlx_min_sat (by omega) (by omega)]
      exact ⟨fun z => ⟨z.1, fun _ => z.2⟩, fun z => ⟨z.1, z.2 q⟩⟩
  have key2 : ∀ T, Sat (n + 1) P (frT p T) ↔ Sat (n + 1) P T ∧ (p.k ≠ kBy → P p.e - P p.s ≤ p.c) := fun T => by
    unfold frT
    by_cases q : p.k = kBy
    · rw [if_pos q]; exact ⟨fun z => ⟨z, fun y => absurd q y⟩, fun z => z.1⟩
    · rw [if_neg q, rlx_min_sat (by omega) (by omega)]
      exact ⟨fun z => ⟨z.1, fun _ => z.2⟩, fun z => ⟨z.1, z.2 q⟩⟩
  unfold prT Okp
  rw [key2, key, and_assoc]
theorem prsT_sat {n : Nat} {P : Nat → Int} : ∀ {ps : List Pr} {T : Tb}, (∀ p ∈ ps, p.ok n) → (Sat (n + 1) P (prsT ps T) ↔ Sat (n + 1) P T ∧ ∀ p ∈ ps, Okp P p)
  | [], T, _ => by simp [prsT]
  | p :: ps, T, h => by
    rw [prsT, prsT_sat (fun q hq => h q (by simp [hq])), prT_sat (h p (by simp))]
    simp only [List.mem_cons, forall_eq_or_imp, and_assoc]
theorem prT_dia {p : Pr} {T : Tb} {a : Nat} (h : T a a = 0) (hse : p.s ≤ p.e) : prT p T a a = 0 := by
  have h1 : byT p T a a = 0 := by
    unfold byT; split
    · exact h
    · rw [rlx_ne _ _ (by omega)]; exact h
  unfold prT frT
  split
  · exact h1
  · by_cases e : a = p.s ∧ a = p.e
    · rw [← e.1, ← e.2, rlx_at, h1]; omega
    · rw [rlx_ne _ _ e]; exact h1
theorem prsT_dia {n : Nat} {a : Nat} : ∀ {ps : List Pr} {T : Tb}, T a a = 0 → (∀ p ∈ ps, p.ok n) → prsT ps T a a = 0
  | [], _, h, _ => h
  | p :: ps, T, h, hp => prsT_dia (T := prT p _) (prT_dia h (hp p (by simp)).se) fun q hq => hp q (by simp [hq])
theorem dayT_dia (k : List Nat) (a : Nat) : ∀ d, dayT k d a a = 0
  | 0 => by simp [dayT, zeroT]
  | d + 1 => by
    have := dayT_dia k a d
    unfold dayT
    rw [rlx_ne _ _ (by omega), rlx_ne _ _ (by omega)]; exact this
theorem first_dia {k : List Nat} {ps : List Pr} {n : Nat} (h : ∀ p ∈ ps, p.ok n) (a : Nat) : firstT k ps a a = 0 := prsT_dia (dayT_dia k a _) h
/-! ### days -/
theorem dayT_eq (k : List Nat) : ∀ (m a b : Nat), dayT k m a b = if b = a + 1 ∧ a < m then (if k[a]? = some 102 then 0 else 1) else if a = b + 1 ∧ b < m then (if k[b]? = some 119 then -1 else 0) else zeroT a b
  | 0, a, b => by rw [dayT, if_neg (by omega), if_neg (by omega)]
  | m + 1, a, b => by
    have ih := dayT_eq k m a b
    unfold dayT
    by_cases e1 : a = m + 1 ∧ b = m
    · obtain ⟨rfl, rfl⟩ := e1
      rw [rlx_at, if_neg (show ¬ (b = b + 1 + 1 ∧ b + 1 < b + 1) by omega), if_pos (show b + 1 = b + 1 ∧ b < b + 1 by omega)]
    · rw [rlx_ne _ _ e1]
      by_cases e2 : a = m ∧ b = m + 1
      · obtain ⟨rfl, rfl⟩ := e2
        rw [rlx_at, if_pos (show a + 1 = a + 1 ∧ a < a + 1 by omega)]
      · rw [rlx_ne _ _ e2, ih]
        have q1 : (b = a + 1 ∧ a < m + 1) ↔ (b = a + 1 ∧ a < m) := by omega
        have q2 : (a = b + 1 ∧ b < m + 1) ↔ (a = b + 1 ∧ b < m) := by omega
        simp only [q1, q2]
structure Case (k : List Nat) (ps : List Pr) : Prop where
  kn : Kn k
  len : k.length ≤ 90
  ok : ∀ p ∈ ps, p.ok k.length
def DayOk (k : List Nat) (P : Nat → Int) : Prop := ∀ d : Nat, d < k.length → P (d + 1) - P d ≤ (if k[d]? = some 102 then 0 else 1) ∧ P d - P (d + 1) ≤ (if k[d]? = some 119 then -1 else 0)
theorem day_lip {k : List Nat} {P : Nat → Int} (h : DayOk k P) {a : Nat} : ∀ m : Nat, a + m ≤ k.length → P a ≤ P (a + m) ∧ P (a + m) ≤ P a + m
  | 0, _ => by simp
  | m + 1, hm => by
    have ih := day_lip h (a := a) m (by omega)
    obtain ⟨h1, h2⟩ := h (a + m) (by omega)
    have e1 : (if k[a + m]? = some 102 then (0 : Int) else 1) ≤ 1 := by split <;> omega
    have e2 : (if k[a + m]? = some 119 then (-1 : Int) else 0) ≤ 0 := by split <;> omega
    rw [show a + (m + 1) = a + m + 1 by omega]
    omega
theorem dayT_sat {k : List Nat} {P : Nat → Int} (hl : k.length ≤ 90) : Sat (k.length + 1) P (dayT k k.length) ↔ DayOk k P := by
  constructor
  · intro h d hd
    have h1 := h d (d + 1) (by omega) (by omega)
    have h2 := h (d + 1) d (by omega) (by omega)
    rw [dayT_eq, if_pos ⟨rfl, hd⟩] at h1
    rw [dayT_eq, if_neg (by omega), if_pos ⟨rfl, hd⟩] at h2
    exact ⟨h1, h2⟩
  · intro h a b ha hb
    rw [dayT_eq]
    split
    · rename_i e; rw [e.1]; exact (h a e.2).1
    · split
      · rename_i e; rw [e.1]; exact (h b e.2).2
      · unfold zeroT
        split
        · rename_i e; rw [e]; omega
        · rcases Nat.le_total a b with q | q
          · obtain ⟨m, rfl⟩ := Nat.le.dest q
            have := day_lip h (a := a) m (by omega)
            omega
          · obtain ⟨m, rfl⟩ := Nat.le.dest q
            have := day_lip h (a := b) m (by omega)
            omega
theorem first_sat {k : List Nat} {ps : List Pr} (c : Case k ps) {P : Nat → Int} : Sat (k.length + 1) P (firstT k ps) ↔ DayOk k P ∧ ∀ p ∈ ps, Okp P p := by
  rw [firstT, prsT_sat c.ok, dayT_sat c.len]
theorem wk_iff {r : List Nat} {d : Nat} : wk r d = true ↔ r[d]? = some 119 := by unfold wk; simp
theorem fits_sat {k : List Nat} {ps : List Pr} (c : Case k ps) {r : List Nat} (hr : Row r) (hl : r.length = k.length) : Fits k ps r ↔ Sat (k.length + 1) (Pn r) (firstT k ps) := by
  rw [first_sat c]
  have kd : (∀ d : Nat, d < k.length → k[d]? = some 63 ∨ k[d]? = r[d]?) ↔ DayOk k (Pn r) := by
    constructor
    · intro h d hd
      have h0 := h d hd
      obtain ⟨ch, hc, _⟩ := row_at hr (show d < r.length by omega)
      have hs := pc_succ r d
      have hw := @wk_iff r d
      have hk : k[d]? = some k[d] := List.getElem?_eq_getElem hd
      rw [hc] at h0 hw
      unfold Pn
      rcases h0 with h0 | h0
      · rw [h0, if_neg (by decide), if_neg (by decide)]
        split at hs <;> omega
      · rw [h0]
        by_cases e : ch = 119
        · subst e
          rw [if_pos (hw.mpr rfl)] at hs
          rw [if_neg (by decide), if_pos rfl]; omega
        · rw [if_neg (fun z => e (Option.some.inj (hw.mp z)))] at hs
          rw [if_neg (fun z => e (Option.some.inj z))]
          split <;> omega
    · intro h d hd
      obtain ⟨h1, h2⟩ := h d hd
      obtain ⟨ch, hc, _⟩ := row_at hr (show d < r.length by omega)
      have hch : ch = 119 ∨ ch = 102 := hr ch (List.mem_of_getElem? hc)
      have hs := pc_succ r d
      have hw := @wk_iff r d
      have hk : k[d]? = some k[d] := List.getElem?_eq_getElem hd
      rw [hc] at hw ⊢
      rw [hk] at h1 h2 ⊢
      unfold Pn at h1 h2
      rcases c.kn k[d] (List.getElem_mem hd) with q | q | q
      · right
        rw [q, if_pos rfl] at h2
        split at hs
        · rename_i z; rw [q]; exact (hw.mp z).symm
        · omega
      · right
        rw [q, if_pos rfl] at h1
        split at hs
        · omega
        · rename_i z
          rcases hch with e | e
          · exact absurd (hw.mpr (by rw [e])) z
          · rw [q, e]
      · left; rw [q]
  constructor
  · intro h
    exact ⟨kd.mp h.day, fun p hp => (keeps_okp hl (c.ok p hp)).mp (h.kp p hp)⟩
  · rintro ⟨h1, h2⟩
    exact ⟨hr, hl, kd.mpr h1, fun p hp => (keeps_okp hl (c.ok p hp)).mpr (h2 p hp)⟩
/-- the row of such numbers -/
def rowOf (P : Nat → Int) (n : Nat) : List Nat := (List.range n).map fun d => if P (d + 1) - P d = 1 then 119 else 102
theorem rowOf_row (P : Nat → Int) (n : Nat) : Row (rowOf P n) := fun c hc => by
  obtain ⟨d, _, rfl⟩ := List.mem_map.mp hc
  split
  · exact .inl rfl
  · exact .inr rfl
theorem rowOf_len (P : Nat → Int) (n : Nat) : (rowOf P n).length = n := by simp [rowOf]
theorem rowOf_at {P : Nat → Int} {n d : Nat} (h : d < n) : (rowOf P n)[d]? = some (if P (d + 1) - P d = 1 then 119 else 102) := by
  unfold rowOf
  rw [List.getElem?_map, List.getElem?_range h]; rfl
theorem rowOf_pc {k : List Nat} {P : Nat → Int} (h : DayOk k P) : ∀ j : Nat, j ≤ k.length → (pc (rowOf P k.length) j : Int) = P j - P 0
  | 0, _ => by simp [pc]
  | j + 1, hj => by
    have ih := rowOf_pc h j (by omega)
    have hl := day_lip h (a := j) 1 (by omega)
    have hs := pc_succ (rowOf P k.length) j
    have hw := @wk_iff (rowOf P k.length) j
    rw [rowOf_at (by omega)] at hw
    by_cases e : P (j + 1) - P j = 1
    · rw [if_pos e] at hw
      rw [if_pos (hw.mpr rfl)] at hs
      omega
    · rw [if_neg e] at hw
      rw [if_neg (fun z => by have := hw.mp z; simp at this)] at hs
      omega
theorem Okp.congr {P Q : Nat → Int} {p : Pr} {n : Nat} {c : Int} (ok : p.ok n) (h : ∀ j, j ≤ n → Q j = P j - c) (o : Okp P p) : Okp Q p := by
  have h1 := h p.s (by have := ok.se; have := ok.en; omega)
  have h2 := h p.e (by have := ok.en; omega)
  have h3 := h (p.e + 1) (by have := ok.en; omega)
  unfold Okp at o ⊢
  rw [h1, h2, h3]
  exact ⟨fun z => by have := o.1 z; omega, fun z => by have := o.2 z; omega⟩
theorem sat_row {k : List Nat} {ps : List Pr} (c : Case k ps) {P : Nat → Int} (h : Sat (k.length + 1) P (firstT k ps)) : Fits k ps (rowOf P k.length) ∧ ∀ j : Nat, j ≤ k.length → (pc (rowOf P k.length) j : Int) = P j - P 0 := by
  obtain ⟨h1, h2⟩ := (first_sat c).mp h
  have hp := rowOf_pc h1
  refine ⟨(fits_sat c (rowOf_row _ _) (rowOf_len _ _)).mpr ((first_sat c).mpr ⟨fun d hd => ?_, fun p hp' => (h2 p hp').congr (c.ok p hp') hp⟩), hp⟩
  obtain ⟨q1, q2⟩ := h1 d hd
  have e1 := hp d (by omega)
  have e2 := hp (d + 1) (by omega)
  unfold Pn
  rw [e1, e2]
  constructor <;> omega
/-! ### all bounds -/
def allT (k : List Nat) (ps : List Pr) : Tb := fw (k.length + 1) (k.length + 1) (firstT k ps)
def Good (k : List Nat) (ps : List Pr) : Prop := ∀ a, a < k.length + 1 → 0 ≤ allT k ps a a
theorem Good.closed {k : List Nat} {ps : List Pr} (c : Case k ps) (g : Good k ps) : Closed (k.length + 1) (allT k ps) := fw_closed (fun a _ => first_dia c.ok a) g
theorem allT_le (k : List Nat) (ps : List Pr) (a b : Nat) : allT k ps a b ≤ firstT k ps a b := fw_le _ _ _ a b
theorem Fits.sat {k : List Nat} {ps : List Pr} (c : Case k ps) {r : List Nat} (f : Fits k ps r) : Sat (k.length + 1) (Pn r) (allT k ps) := fw_sat _ (Nat.le_refl _) ((fits_sat c f.row f.len).mp f)
theorem Fits.good {k : List Nat} {ps : List Pr} (c : Case k ps) {r : List Nat} (f : Fits k ps r) : Good k ps := fun a ha => by
  have := f.sat c a a ha ha
  omega
theorem Good.meet {k : List Nat} {ps : List Pr} (c : Case k ps) (g : Good k ps) {i j : Nat} (hi : i ≤ k.length) (hj : j ≤ k.length) {v : Int} (h1 : -allT k ps j i ≤ v) (h2 : v ≤ allT k ps i j) : ∃ r, Fits k ps r ∧ (pc r j : Int) - pc r i = v := by
  obtain ⟨P, s, p1, p2⟩ := (g.closed c).meet (i := i) (j := j) (by omega) (by omega) h1 h2
  obtain ⟨f, hp⟩ := sat_row c (s.le (allT_le k ps))
  refine ⟨_, f, ?_⟩
  rw [hp i hi, hp j hj]; omega
theorem good_iff {k : List Nat} {ps : List Pr} (c : Case k ps) : Good k ps ↔ ∃ r, Fits k ps r := by
  constructor
  · intro g
    have d := (g.closed c).dia 0 (by omega)
    obtain ⟨r, f, _⟩ := g.meet c (i := 0) (j := 0) (v := 0) (by omega) (by omega) (by omega) (by omega)
    exact ⟨r, f⟩
  · rintro ⟨r, f⟩
    exact f.good c
end Fl
set_option Elab.async false
set_option linter.all false
set_option maxRecDepth 100000
set_option maxHeartbeats 1000000
namespace Fl
open L2
/-! ### a table in the store -/
def rowO (N : Nat) (T : Tb) (i : Nat) : SO := .lst ((List.range N).map fun j => D.int (T i j))
def obsR (n N : Nat) : List D := (List.range N).map fun i => D.ob (n + i)
def tabS (s : Sto) (N : Nat) (T : Tb) : Sto := s ++ ((List.range N).map (rowO N T) ++ [.lst (obsR s.length N)])
theorem tab_row {s : Sto} {N : Nat} {T : Tb} {i : Nat} (h : i < N) : (tabS s N T)[s.length + i]? = some (rowO N T i) := by
  unfold tabS
  rw [List.getElem?_append_right (by omega), Nat.add_sub_cancel_left, List.getElem?_append_left (by simpa using h), List.getElem?_map, List.getElem?_range h]; rfl
theorem tab_top {s : Sto} {N : Nat} {T : Tb} : (tabS s N T)[s.length + N]? = some (.lst (obsR s.length N)) := by
  unfold tabS
  rw [List.getElem?_append_right (by omega), Nat.add_sub_cancel_left, List.getElem?_append_right (by simp)]; simp
theorem range_set {α : Type} {N j : Nat} {f : Nat → α} {v : α} : ((List.range N).map f).set j v = (List.range N).map fun x => if x = j then v else f x := by
  apply List.ext_getElem?
  intro k
  by_cases hk : k < N
  · rw [List.getElem?_map, List.getElem?_range hk, List.getElem?_set]
    simp only [List.getElem?_map, List.getElem?_range hk, List.length_map, List.length_range, Option.map_some]
    by_cases e : j = k
    · subst e; simp [hk]
    · rw [if_neg e, if_neg (Ne.symm e)]
  · rw [List.getElem?_eq_none (by simp; omega), List.getElem?_eq_none (by simp; omega)]
theorem tab_set {s : Sto} {N : Nat} {T : Tb} {i j : Nat} {v : Int} (h : i < N) : (tabS s N T).set (s.length + i) (.lst (((List.range N).map fun j => D.int (T i j)).set j (.int v))) = tabS s N (rlx T i j v) := by
  unfold tabS
  rw [List.set_append_right _ _ (by omega), Nat.add_sub_cancel_left, List.set_append_left _ _ (by simpa using h), range_set, range_set]
  congr 2
  apply List.map_congr_left
  intro x _
  by_cases e : x = i
  · subst e
    rw [if_pos rfl]
    unfold rowO
    congr 1
    apply List.map_congr_left
    intro y _
    by_cases e2 : y = j
    · subst e2; rw [if_pos rfl, rlx_at]
    · rw [if_neg e2, rlx_ne _ _ (by omega)]
  · rw [if_neg e]
    unfold rowO
    congr 1
    apply List.map_congr_left
    intro y _
    rw [rlx_ne _ _ (by omega)]
theorem ix_top {s : Sto} {N : Nat} {T : Tb} {x : Int} (i : Nat) (h : i < N) (hx : x = i) : ixG (tabS s N T) (.ob (s.length + N)) (.int x) = .val (.ob (s.length + i)) (tabS s N T) := by
  subst hx
  exact ixG_ob tab_top (atI_nat (by unfold obsR; rw [List.getElem?_map, List.getElem?_range h]; rfl))
theorem ix_row {s : Sto} {N : Nat} {T : Tb} {y : Int} (i j : Nat) (hi : i < N) (h : j < N) (hy : y = j) : ixG (tabS s N T) (.ob (s.length + i)) (.int y) = .val (.int (T i j)) (tabS s N T) := by
  subst hy
  exact ixG_ob (tab_row hi) (atI_nat (by rw [List.getElem?_map, List.getElem?_range h]; rfl))
theorem set_tab {s : Sto} {N : Nat} {T : Tb} {δ : Sl} {fo fi : EF} {v y : Int} (i j : Nat) (hi : i < N) (hj : j < N) (hy : y = j) (h1 : fo δ (tabS s N T) = .val (.ob (s.length + i)) (tabS s N T)) (h2 : fi δ (tabS s N T) = .val (.int y) (tabS s N T)) :
    setI fo fi (.int v) δ (tabS s N T) = .val δ (tabS s N (rlx T i j v)) := by
  subst hy
  rw [e_setI, h1, O.bind_val, h2, O.bind_val]
  simp only [tab_row hi]
  have e : ixN ((List.range N).map fun j => D.int (T i j)).length (j : Int) = some j := by simp [ixN]; omega
  unfold rowO
  simp only [e]
  rw [tab_set hi]
theorem len_tab {s : Sto} {N : Nat} {T : Tb} : lenG (tabS s N T) [.ob (s.length + N)] = .val (.int N) (tabS s N T) := by
  rw [lenG_obD, tab_top]; simp [obsR]
theorem loopA_pure {g : GF} {t : BF} {e : EF} {δ : Sl} {s : Sto} (v : D → D) : ∀ (xs acc : List D), (∀ x ∈ xs, ∃ δ1, g x δ s = .val δ1 s ∧ t δ1 s = .val true s ∧ e δ1 s = .val (v x) s) → acc.length + xs.length ≤ 16000000 →
    loopA g t e δ xs acc s = .val (acc ++ xs.map v) s
  | [], acc, _, _ => by simp
  | x :: xs, acc, h, hl => by
    obtain ⟨δ1, h1, h2, h3⟩ := h x (by simp)
    have ih := fun acc' hl' => loopA_pure v xs acc' (fun y hy => h y (by simp [hy])) hl'
    simp only [List.length_cons] at hl
    rw [loopA_cons, h1, noX_val, O.bind_val, h2, quiet_val, O.bind_val, if_pos rfl, h3, quiet_val, O.bind_val, if_pos (by omega), ih _ (by simp; omega)]
    simp
theorem loopA_own {g : GF} {t : BF} {e : EF} {δ : Sl} (row : D → List D) : ∀ (xs acc : List D) (s : Sto), (∀ x ∈ xs, ∀ s', ∃ δ1, g x δ s' = .val δ1 s' ∧ t δ1 s' = .val true s' ∧ e δ1 s' = .val (.ob s'.length) (s' ++ [.lst (row x)])) → acc.length + xs.length ≤ 16000000 →
    loopA g t e δ xs acc s = .val (acc ++ obsR s.length xs.length) (s ++ xs.map fun x => .lst (row x))
  | [], acc, s, _, _ => by simp [obsR]
  | x :: xs, acc, s, h, hl => by
    obtain ⟨δ1, h1, h2, h3⟩ := h x (by simp) s
    have ih := fun acc' hl' => loopA_own row xs acc' (s ++ [.lst (row x)]) (fun y hy => h y (by simp [hy])) hl'
    simp only [List.length_cons] at hl
    rw [loopA_cons, h1, noX_val, O.bind_val, h2, quiet_val, O.bind_val, if_pos rfl, h3, quiet_val, O.bind_val, if_pos (by omega), ih _ (by simp; omega)]
    have e2 : obsR s.length (x :: xs).length = .ob s.length :: obsR (s.length + 1) xs.length := by
      unfold obsR
      rw [List.length_cons, List.range_succ_eq_map]
      simp only [List.map_cons, List.map_map, Nat.add_zero]
      congr 1
      apply List.map_congr_left
      intro a _
      simp; omega
    rw [e2]
    simp
/-! ### first_bounds -/
theorem sm_nat {n : Nat} (h : n ≤ 1000000) : sm (n : Int) = true := sm_of (by omega) (by omega)
theorem sm_nat1 {n : Nat} (h : n ≤ 1000000) : sm ((n : Int) + 1) = true := sm_of (by omega) (by omega)
theorem num_at {n : Nat} {ds : List D} {i : Nat} {x : D} (h : (numbered n ds)[i]? = some x) : ∃ d, ds[i]? = some d ∧ x = .tup [.int ((n + i : Nat) : Int), d] := by
  rw [numbered_get] at h
  obtain ⟨d, h1, rfl⟩ := Option.map_eq_some_iff.mp h
  exact ⟨d, h1, rfl⟩
def signs (k : List Nat) : List D := k.map fun c => .str [c]
@[simp] theorem srcD_str {k : List Nat} : srcD (.str k) = some (signs k) := rfl
@[simp] theorem srcD_tup {ds : List D} : srcD (.tup ds) = some ds := rfl
@[simp] theorem srcD_lst {ds : List D} : srcD (.lst ds) = some ds := rfl
@[simp] theorem e_enum {fr : AF} {δ : Sl} {s : Sto} : enumF fr δ s = (fr δ s).bind fun ds s1 => match ds with
  | [x] => match srcD x with
    | some xs => .val (numbered 0 xs) s1
    | none => .stuck
  | _ => .stuck := rfl
@[simp] theorem minG_two {s : Sto} {i j : Int} : minG s [.int i, .int j] = .val (.int (if j < i then j else i)) s := rfl
theorem min_if (i j : Int) : (if j < i then j else i) = min i j := by omega
theorem prsT_take {ps : List Pr} {i : Nat} {p : Pr} {T : Tb} (h : ps[i]? = some p) : prsT (ps.take (i + 1)) T = prT p (prsT (ps.take i) T) := by
  induction ps generalizing i T with
  | nil => simp at h
  | cons q ps ih =>
    cases i with
    | zero => simp at h; subst h; simp [prsT]
    | succ i =>
      simp at h
      simp only [List.take_succ_cons, prsT]
      exact ih h
theorem fb_day {s : Sto} {k : List Nat} {d c : Nat} {a0 a1 a2 a6 a7 a8 a9 a10 a11 : Option D} {a4 a5 : Option D} (hc : k[d]? = some c) :
    turn (tupG [(nameG 4), (nameG 5)]) l_first_bounds_1 (.tup [.int (d : Int), .str [c]]) [a0, a1, a2, some (.ob (s.length + (k.length + 1))), a4, a5, a6, a7, a8, a9, a10, a11] (tabS s (k.length + 1) (dayT k d))
      = .nx [a0, a1, a2, some (.ob (s.length + (k.length + 1))), some (.int (d : Int)), some (.str [c]), a6, a7, a8, a9, a10, a11] (tabS s (k.length + 1) (dayT k (d + 1))) := by
  have hd : d < k.length := (List.getElem?_eq_some_iff.mp hc).1
  have q1 : ∀ (v : Int) (T : Tb), setI (bin ixG (varF 3) (varF 4)) (bin addG (varF 4) (cF (.int 1))) (.int v) [a0, a1, a2, some (.ob (s.length + (k.length + 1))), some (.int (d : Int)), some (.str [c]), a6, a7, a8, a9, a10, a11] (tabS s (k.length + 1) T) = .val [a0, a1, a2, some (.ob (s.length + (k.length + 1))), some (.int (d : Int)), some (.str [c]), a6, a7, a8, a9, a10, a11] (tabS s (k.length + 1) (rlx T d (d + 1) v)) := fun v T =>
    set_tab (y := (d : Int) + 1) d (d + 1) (by omega) (by omega) (by omega) (by simp only [e_bin, e_var, List.getElem?_cons_succ, List.getElem?_cons_zero, O.bind_val]; exact ix_top d (by omega) rfl) rfl
  have q2 : ∀ (v : Int) (T : Tb), setI (bin ixG (varF 3) (bin addG (varF 4) (cF (.int 1)))) (varF 4) (.int v) [a0, a1, a2, some (.ob (s.length + (k.length + 1))), some (.int (d : Int)), some (.str [c]), a6, a7, a8, a9, a10, a11] (tabS s (k.length + 1) T) = .val [a0, a1, a2, some (.ob (s.length + (k.length + 1))), some (.int (d : Int)), some (.str [c]), a6, a7, a8, a9, a10, a11] (tabS s (k.length + 1) (rlx T (d + 1) d v)) := fun v T =>
    set_tab (y := (d : Int)) (d + 1) d (by omega) (by omega) rfl (by simp only [e_bin, e_var, e_c, addG_int, List.getElem?_cons_succ, List.getElem?_cons_zero, O.bind_val]; exact ix_top (d + 1) (by omega) (by omega)) rfl
  have e3 : dayT k (d + 1) = rlx (rlx (dayT k d) d (d + 1) (if c = 102 then 0 else 1)) (d + 1) d (if c = 119 then -1 else 0) := by
    rw [dayT, hc]; simp only [Option.some.injEq]
  by_cases h1 : c = 119
  · subst h1
    simp -implicitDefEqProofs [-e_setI, turn, l_first_bounds_1, q1, q2, e3]
  · by_cases h2 : c = 102
    · subst h2
      simp -implicitDefEqProofs [-e_setI, turn, l_first_bounds_1, q1, q2, e3]
    · simp -implicitDefEqProofs [-e_setI, turn, l_first_bounds_1, q1, q2, e3, h1, h2]
theorem fb_pr {s : Sto} {N : Nat} {T : Tb} {p : Pr} {a0 a1 a2 a4 a5 a6 a7 a8 a9 a10 a11 : Option D} (ok : p.ok (N - 1)) :
    turn (tupG [(nameG 6), (nameG 7), (nameG 8), (nameG 9)]) l_first_bounds_2 p.d [a0, a1, a2, some (.ob (s.length + N)), a4, a5, a6, a7, a8, a9, a10, a11] (tabS s N T)
      = .nx [a0, a1, a2, some (.ob (s.length + N)), a4, a5, some (.str p.k), some (.int ((p.s : Int) - 1)), some (.int ((p.c : Int) + 1)), some (.int (p.e : Int)), a10, a11] (tabS s N (prT p T)) := by
  obtain ⟨hk, hse, hen, hcn⟩ := ok
  have r1 : ∀ T : Tb, ixG (tabS s N T) (.ob (s.length + N)) (.int ((p.e : Int) + 1)) = .val (.ob (s.length + (p.e + 1))) (tabS s N T) := fun T => ix_top (p.e + 1) (by omega) (by omega)
  have r2 : ∀ T : Tb, ixG (tabS s N T) (.ob (s.length + N)) (.int (p.s : Int)) = .val (.ob (s.length + p.s)) (tabS s N T) := fun T => ix_top p.s (by omega) rfl
  have r3 : ∀ T : Tb, ixG (tabS s N T) (.ob (s.length + (p.e + 1))) (.int (p.s : Int)) = .val (.int (T (p.e + 1) p.s)) (tabS s N T) := fun T => ix_row (p.e + 1) p.s (by omega) (by omega) rfl
  have r4 : ∀ T : Tb, ixG (tabS s N T) (.ob (s.length + p.s)) (.int (p.e : Int)) = .val (.int (T p.s p.e)) (tabS s N T) := fun T => ix_row p.s p.e (by omega) (by omega) rfl
  have q1 : ∀ (v : Int) (T : Tb), setI (bin ixG (varF 3) (bin addG (varF 9) (cF (.int 1)))) (bin addG (varF 7) (cF (.int 1))) (.int v) [a0, a1, a2, some (.ob (s.length + N)), a4, a5, some (.str p.k), some (.int ((p.s : Int) - 1)), some (.int ((p.c : Int) + 1)), some (.int (p.e : Int)), a10, a11] (tabS s N T) = .val [a0, a1, a2, some (.ob (s.length + N)), a4, a5, some (.str p.k), some (.int ((p.s : Int) - 1)), some (.int ((p.c : Int) + 1)), some (.int (p.e : Int)), a10, a11] (tabS s N (rlx T (p.e + 1) p.s v)) := fun v T =>
    set_tab (y := (p.s : Int) - 1 + 1) (p.e + 1) p.s (by omega) (by omega) (by omega) (by simp only [e_bin, e_var, e_c, addG_int, List.getElem?_cons_succ, List.getElem?_cons_zero, O.bind_val]; exact r1 T) rfl
  have q2 : ∀ (v : Int) (T : Tb), setI (bin ixG (varF 3) (bin addG (varF 7) (cF (.int 1)))) (varF 9) (.int v) [a0, a1, a2, some (.ob (s.length + N)), a4, a5, some (.str p.k), some (.int ((p.s : Int) - 1)), some (.int ((p.c : Int) + 1)), some (.int (p.e : Int)), a10, a11] (tabS s N T) = .val [a0, a1, a2, some (.ob (s.length + N)), a4, a5, some (.str p.k), some (.int ((p.s : Int) - 1)), some (.int ((p.c : Int) + 1)), some (.int (p.e : Int)), a10, a11] (tabS s N (rlx T p.s p.e v)) := fun v T =>
    set_tab (y := (p.e : Int)) p.s p.e (by omega) (by omega) (by omega) (by simp only [e_bin, e_var, e_c, addG_int, List.getElem?_cons_succ, List.getElem?_cons_zero, O.bind_val]; rw [show (p.s : Int) - 1 + 1 = p.s by omega]; exact r2 T) rfl
  have z : (p.s : Int) - 1 + 1 = p.s := by omega
  have z2 : (p.c : Int) + 1 - 1 = p.c := by omega
  rcases hk with e | e | e
  · rw [e] at q1 q2
    unfold kOn at q1 q2
    simp -implicitDefEqProofs [-e_setI, -ixG_obD, turn, l_first_bounds_2, Pr.d, e, kOn, q1, q2, r1, r2, r3, r4, z, z2, prT, byT, frT, kBy, kFrom, min_if]
  · rw [e] at q1 q2
    unfold kBy at q1 q2
    simp -implicitDefEqProofs [-e_setI, -ixG_obD, turn, l_first_bounds_2, Pr.d, e, kBy, q1, q2, r1, r2, r3, r4, z, z2, prT, byT, frT, kFrom, min_if]
  · rw [e] at q1 q2
    unfold kFrom at q1 q2
    simp -implicitDefEqProofs [-e_setI, -ixG_obD, turn, l_first_bounds_2, Pr.d, e, kFrom, q1, q2, r1, r2, r3, r4, z, z2, prT, byT, frT, kBy, min_if]
theorem first_spec {s : Sto} {k : List Nat} {ps : List Pr} (c : Case k ps) : m_first_bounds [.str k, .tup (ps.map Pr.d)] s = .val (.ob (s.length + (k.length + 1))) (tabS s (k.length + 1) (firstT k ps)) := by
  have hl := c.len
  have hL : lenG s [.str k] = .val (.int k.length) s := lenG_str (by omega)
  have hs : sm ((k.length : Int) + 1) = true := sm_nat1 (by omega)
  have hn : ((k.length : Int) + 1).toNat = k.length + 1 := by omega
  have inner : ∀ (i : Int) (δ : Sl) (s' : Sto), δ.length = 12 → δ[10]? = some (some (.int i)) → loopA (nameG 11) yes (iteE (tst (bin eqG (varF 10) (varF 11))) (cF (.int 0)) (cF (.int 99))) δ (upI 0 (k.length + 1)) [] s' = .val ((List.range (k.length + 1)).map fun (j : Nat) => .int (if i = j then 0 else 99)) s' := by
    intro i δ s' h0 h1
    rw [loopA_pure (v := fun d => match d with | .int j => .int (if i = j then 0 else 99) | d => d)]
    · simp [upI, Function.comp_def]
    · intro x hx
      obtain ⟨j, hj⟩ := List.getElem?_of_mem hx
      obtain ⟨rfl, _⟩ := upI_get hj
      refine ⟨_, rfl, rfl, ?_⟩
      have h2 : (δ.set 11 (some (.int (0 + (j : Int)))))[10]? = some (some (.int i)) := by rw [List.getElem?_set_ne (by decide)]; exact h1
      have h3 : (δ.set 11 (some (.int (0 + (j : Int)))))[11]? = some (some (.int (0 + (j : Int)))) := List.getElem?_set_self (by omega)
      have h4 : iteE (tst (bin eqG (varF 10) (varF 11))) (cF (.int 0)) (cF (.int 99)) (δ.set 11 (some (.int (0 + (j : Int))))) s' = .val (if (i == 0 + (j : Int)) = true then .int 0 else .int 99) s' := by
        rw [e_ite, e_tst, e_bin, e_var, h2]
        simp only [O.bind_val, e_var, h3, eqG_def, view_int, dep_int, deq_int, Nat.zero_le, and_self, if_true, e_c]
        split <;> rfl
      rw [h4]
      by_cases e : i = 0 + (j : Int)
      · rw [if_pos (by rw [e]; simp)]
        show _ = O.val (D.int (if i = 0 + (j : Int) then 0 else 99)) s'
        rw [if_pos e]
      · rw [if_neg (by simpa using e)]
        show _ = O.val (D.int (if i = 0 + (j : Int) then 0 else 99)) s'
        rw [if_neg e]
    · simp; omega
  have outer : loopA (nameG 10) yes (compO (rng1F (con (bin addG (varF 2) (cF (.int 1))) (nil))) [11] (nameG 11) (yes) (iteE (tst (bin eqG (varF 10) (varF 11))) (cF (.int 0)) (cF (.int 99)))) [some (.str k), some (.tup (ps.map Pr.d)), some (.int k.length), none, none, none, none, none, none, none, none, none] (upI 0 (k.length + 1)) [] s
      = .val (obsR s.length (k.length + 1)) (s ++ (List.range (k.length + 1)).map (rowO (k.length + 1) zeroT)) := by
    have e1 : (upI 0 (k.length + 1)).map (fun x => SO.lst ((fun d => match d with | .int i => (List.range (k.length + 1)).map (fun (j : Nat) => D.int (if i = j then 0 else 99)) | _ => []) x)) = (List.range (k.length + 1)).map (rowO (k.length + 1) zeroT) := by
      unfold upI
      rw [List.map_map]
      refine List.map_congr_left fun i _ => ?_
      show SO.lst ((List.range (k.length + 1)).map (fun (j : Nat) => D.int (if (0 : Int) + (i : Int) = j then 0 else 99))) = SO.lst ((List.range (k.length + 1)).map fun j => D.int (zeroT i j))
      have e2 : (fun (j : Nat) => D.int (if (0 : Int) + (i : Int) = j then 0 else 99)) = fun j => D.int (zeroT i j) := by
        funext j
        unfold zeroT
        by_cases e : i = j
        · rw [if_pos e, if_pos (by omega)]
        · rw [if_neg e, if_neg (by omega)]
      rw [e2]
    rw [loopA_own (row := fun d => match d with | .int i => (List.range (k.length + 1)).map (fun (j : Nat) => .int (if i = j then 0 else 99)) | _ => []), e1, upI_len, List.nil_append]
    · intro x hx s'
      obtain ⟨i, hi⟩ := List.getElem?_of_mem hx
      obtain ⟨rfl, _⟩ := upI_get hi
      refine ⟨_, rfl, rfl, ?_⟩
      have := inner (0 + (i : Int)) [some (.str k), some (.tup (ps.map Pr.d)), some (.int k.length), none, none, none, none, none, none, none, some (.int (0 + (i : Int))), none] s' rfl rfl
      simp -implicitDefEqProofs [hs, hn, wipeD, this] at this ⊢
      rw [this]
      simp
    · simp; omega
  obtain ⟨δ1, s1, e1, ⟨b4, b5, rfl⟩, rfl⟩ := loop_inv (g := tupG [(nameG 4), (nameG 5)]) (body := l_first_bounds_1) (xs := numbered 0 (signs k))
    (fun i δ s' => (∃ a4 a5, δ = [some (.str k), some (.tup (ps.map Pr.d)), some (.int k.length), some (.ob (s.length + (k.length + 1))), a4, a5, none, none, none, none, none, none]) ∧ s' = tabS s (k.length + 1) (dayT k i))
    (fun i x δ s' hx hI => by
      obtain ⟨⟨a4, a5, rfl⟩, rfl⟩ := hI
      obtain ⟨d, h1, rfl⟩ := num_at hx
      unfold signs at h1
      rw [List.getElem?_map] at h1
      obtain ⟨ch, h2, rfl⟩ := Option.map_eq_some_iff.mp h1
      rw [Nat.zero_add]
      exact ⟨_, _, fb_day h2, ⟨_, _, rfl⟩, rfl⟩)
    (δ := [some (.str k), some (.tup (ps.map Pr.d)), some (.int k.length), some (.ob (s.length + (k.length + 1))), none, none, none, none, none, none, none, none]) (s := tabS s (k.length + 1) (dayT k 0)) ⟨⟨_, _, rfl⟩, rfl⟩
  rw [numbered_len, show (signs k).length = k.length by simp [signs]] at e1
  obtain ⟨δ2, s2, e2, ⟨b6, b7, b8, b9, rfl⟩, rfl⟩ := loop_inv (g := tupG [(nameG 6), (nameG 7), (nameG 8), (nameG 9)]) (body := l_first_bounds_2) (xs := ps.map Pr.d)
    (fun i δ s' => (∃ a6 a7 a8 a9, δ = [some (.str k), some (.tup (ps.map Pr.d)), some (.int k.length), some (.ob (s.length + (k.length + 1))), b4, b5, a6, a7, a8, a9, none, none]) ∧ s' = tabS s (k.length + 1) (prsT (ps.take i) (dayT k k.length)))
    (fun i x δ s' hx hI => by
      obtain ⟨⟨a6, a7, a8, a9, rfl⟩, rfl⟩ := hI
      rw [List.getElem?_map] at hx
      obtain ⟨p, h1, rfl⟩ := Option.map_eq_some_iff.mp hx
      have := fb_pr (s := s) (N := k.length + 1) (T := prsT (ps.take i) (dayT k k.length)) (p := p) (a0 := some (.str k)) (a1 := some (.tup (ps.map Pr.d))) (a2 := some (.int k.length)) (a4 := b4) (a5 := b5) (a6 := a6) (a7 := a7) (a8 := a8) (a9 := a9) (a10 := none) (a11 := none) (c.ok p (List.mem_of_getElem? h1))
      exact ⟨_, _, this, ⟨_, _, _, _, rfl⟩, by rw [prsT_take h1]⟩)
    (δ := [some (.str k), some (.tup (ps.map Pr.d)), some (.int k.length), some (.ob (s.length + (k.length + 1))), b4, b5, none, none, none, none, none, none]) (s := tabS s (k.length + 1) (dayT k k.length)) ⟨⟨_, _, _, _, rfl⟩, by simp [prsT]⟩
  rw [List.length_map, List.take_length] at e2
  have e0 : s ++ ((List.range (k.length + 1)).map (rowO (k.length + 1) zeroT) ++ [.lst (obsR s.length (k.length + 1))]) = tabS s (k.length + 1) (dayT k 0) := rfl
  simp -implicitDefEqProofs [m_first_bounds, fnK, b_first_bounds, N_first_bounds, startD, hL, hs, hn, wipeD, outer, e0, e1, e2, firstT]
/-! ### all_bounds -/
theorem ab_one {s : Sto} {N K I J : Nat} {T : Tb} {a0 a1 a3 a6 a7 a8 : Option D} (hk : K < N) (hi : I < N) (hj : J < N) :
    ∃ a7', turn (nameG 6) l_all_bounds_1 (.int (J : Int)) [a0, a1, some (.ob (s.length + N)), a3, some (.int (K : Int)), some (.int (I : Int)), a6, a7, a8] (tabS s N T)
      = .nx [a0, a1, some (.ob (s.length + N)), a3, some (.int (K : Int)), some (.int (I : Int)), some (.int (J : Int)), a7', a8] (tabS s N (stp K I J T)) := by
  have r1 : ixG (tabS s N T) (.ob (s.length + N)) (.int (I : Int)) = .val (.ob (s.length + I)) (tabS s N T) := ix_top I hi rfl
  have r2 : ixG (tabS s N T) (.ob (s.length + N)) (.int (K : Int)) = .val (.ob (s.length + K)) (tabS s N T) := ix_top K hk rfl
  have r3 : ixG (tabS s N T) (.ob (s.length + I)) (.int (K : Int)) = .val (.int (T I K)) (tabS s N T) := ix_row I K hi hk rfl
  have r4 : ixG (tabS s N T) (.ob (s.length + K)) (.int (J : Int)) = .val (.int (T K J)) (tabS s N T) := ix_row K J hk hj rfl
  have r5 : ixG (tabS s N T) (.ob (s.length + I)) (.int (J : Int)) = .val (.int (T I J)) (tabS s N T) := ix_row I J hi hj rfl
  have q : ∀ a7 : Option D, setI (bin ixG (varF 2) (varF 5)) (varF 6) (.int (T I K + T K J)) [a0, a1, some (.ob (s.length + N)), a3, some (.int (K : Int)), some (.int (I : Int)), some (.int (J : Int)), a7, a8] (tabS s N T) = .val [a0, a1, some (.ob (s.length + N)), a3, some (.int (K : Int)), some (.int (I : Int)), some (.int (J : Int)), a7, a8] (tabS s N (rlx T I J (T I K + T K J))) := fun a7 =>
    set_tab (y := (J : Int)) I J hi hj rfl (by simp only [e_bin, e_var, List.getElem?_cons_succ, List.getElem?_cons_zero, O.bind_val]; exact r1) rfl
  refine ⟨some (.int (T I K + T K J)), ?_⟩
  by_cases h : T I K + T K J < T I J
  · simp -implicitDefEqProofs [-e_setI, -ixG_obD, turn, l_all_bounds_1, r1, r2, r3, r4, r5, q, h, stp]
  · simp -implicitDefEqProofs [-e_setI, -ixG_obD, turn, l_all_bounds_1, r1, r2, r3, r4, r5, q, h, stp]
theorem ab_row {s : Sto} {N K I : Nat} {T : Tb} {a0 a1 a6 a7 a8 : Option D} (hN : N ≤ 1000) (hk : K < N) (hi : I < N) {a5 : Option D} :
    ∃ a6' a7', turn (nameG 5) l_all_bounds_2 (.int (I : Int)) [a0, a1, some (.ob (s.length + N)), some (.int (N : Int)), some (.int (K : Int)), a5, a6, a7, a8] (tabS s N T)
      = .nx [a0, a1, some (.ob (s.length + N)), some (.int (N : Int)), some (.int (K : Int)), some (.int (I : Int)), a6', a7', a8] (tabS s N (rowP K I N T)) := by
  obtain ⟨δ1, s1, e1, ⟨b6, b7, rfl⟩, rfl⟩ := loop_inv (g := nameG 6) (body := l_all_bounds_1) (xs := upI 0 N)
    (fun i δ s' => (∃ a6 a7, δ = [a0, a1, some (.ob (s.length + N)), some (.int (N : Int)), some (.int (K : Int)), some (.int (I : Int)), a6, a7, a8]) ∧ s' = tabS s N (rowP K I i T))
    (fun i x δ s' hx hI => by
      obtain ⟨⟨a6, a7, rfl⟩, rfl⟩ := hI
      obtain ⟨rfl, hi2⟩ := upI_get hx
      rw [Int.zero_add]
      obtain ⟨a7', q⟩ := ab_one (s := s) (T := rowP K I i T) (a0 := a0) (a1 := a1) (a3 := some (.int (N : Int))) (a6 := a6) (a7 := a7) (a8 := a8) hk hi hi2
      exact ⟨_, _, q, ⟨_, _, rfl⟩, rfl⟩)
    (δ := [a0, a1, some (.ob (s.length + N)), some (.int (N : Int)), some (.int (K : Int)), some (.int (I : Int)), a6, a7, a8]) (s := tabS s N T) ⟨⟨_, _, rfl⟩, rfl⟩
  rw [upI_len] at e1
  refine ⟨b6, b7, ?_⟩
  simp -implicitDefEqProofs [turn, l_all_bounds_2, sm_nat (show N ≤ 1000000 by omega), e1]
theorem ab_phase {s : Sto} {N K : Nat} {T : Tb} {a0 a1 a4 a5 a6 a7 a8 : Option D} (hN : N ≤ 1000) (hk : K < N) :
    ∃ a5' a6' a7', turn (nameG 4) l_all_bounds_3 (.int (K : Int)) [a0, a1, some (.ob (s.length + N)), some (.int (N : Int)), a4, a5, a6, a7, a8] (tabS s N T)
      = .nx [a0, a1, some (.ob (s.length + N)), some (.int (N : Int)), some (.int (K : Int)), a5', a6', a7', a8] (tabS s N (phase N K N T)) := by
  obtain ⟨δ1, s1, e1, ⟨b5, b6, b7, rfl⟩, rfl⟩ := loop_inv (g := nameG 5) (body := l_all_bounds_2) (xs := upI 0 N)
    (fun i δ s' => (∃ a5 a6 a7, δ = [a0, a1, some (.ob (s.length + N)), some (.int (N : Int)), some (.int (K : Int)), a5, a6, a7, a8]) ∧ s' = tabS s N (phase N K i T))
    (fun i x δ s' hx hI => by
      obtain ⟨⟨a5, a6, a7, rfl⟩, rfl⟩ := hI
      obtain ⟨rfl, hi2⟩ := upI_get hx
      rw [Int.zero_add]
      obtain ⟨a6', a7', q⟩ := ab_row (s := s) (T := phase N K i T) (a0 := a0) (a1 := a1) (a5 := a5) (a6 := a6) (a7 := a7) (a8 := a8) hN hk hi2
      exact ⟨_, _, q, ⟨_, _, _, rfl⟩, rfl⟩)
    (δ := [a0, a1, some (.ob (s.length + N)), some (.int (N : Int)), some (.int (K : Int)), a5, a6, a7, a8]) (s := tabS s N T) ⟨⟨_, _, _, rfl⟩, rfl⟩
  rw [upI_len] at e1
  refine ⟨b5, b6, b7, ?_⟩
  simp -implicitDefEqProofs [turn, l_all_bounds_3, sm_nat (show N ≤ 1000000 by omega), e1]
theorem mapM_some {α β : Type} {f : α → Option β} {g : α → β} : ∀ {l : List α}, (∀ x ∈ l, f x = some (g x)) → l.mapM f = some (l.map g)
  | [], _ => rfl
  | x :: l, h => by
    rw [List.mapM_cons, h x (by simp), mapM_some (l := l) (fun y hy => h y (by simp [hy]))]; rfl
/-- a table that stands for good -/
def rowD (N : Nat) (T : Tb) (i : Nat) : D := .lst ((List.range N).map fun j => D.int (T i j))
def tabD (N : Nat) (T : Tb) : D := .lst ((List.range N).map (rowD N T))
open Classical in
noncomputable def boundsR (k : List Nat) (ps : List Pr) : D := if Good k ps then tabD (k.length + 1) (allT k ps) else .non
theorem all_spec {s : Sto} {k : List Nat} {ps : List Pr} (c : Case k ps) : m_all_bounds [.str k, .tup (ps.map Pr.d)] s = .val (boundsR k ps) s := by
  have hl := c.len
  have hf := first_spec (s := s) c
  obtain ⟨δ1, s1, e1, ⟨b4, b5, b6, b7, rfl⟩, rfl⟩ := loop_inv (g := nameG 4) (body := l_all_bounds_3) (xs := upI 0 (k.length + 1))
    (fun i δ s' => (∃ a4 a5 a6 a7, δ = [some (.str k), some (.tup (ps.map Pr.d)), some (.ob (s.length + (k.length + 1))), some (.int ((k.length + 1 : Nat) : Int)), a4, a5, a6, a7, none]) ∧ s' = tabS s (k.length + 1) (fw (k.length + 1) i (firstT k ps)))
    (fun i x δ s' hx hI => by
      obtain ⟨⟨a4, a5, a6, a7, rfl⟩, rfl⟩ := hI
      obtain ⟨rfl, hi2⟩ := upI_get hx
      rw [Int.zero_add]
      obtain ⟨a5', a6', a7', q⟩ := ab_phase (s := s) (N := k.length + 1) (T := fw (k.length + 1) i (firstT k ps)) (a0 := some (.str k)) (a1 := some (.tup (ps.map Pr.d))) (a4 := a4) (a5 := a5) (a6 := a6) (a7 := a7) (a8 := none) (by omega) hi2
      exact ⟨_, _, q, ⟨_, _, _, _, rfl⟩, rfl⟩)
    (δ := [some (.str k), some (.tup (ps.map Pr.d)), some (.ob (s.length + (k.length + 1))), some (.int ((k.length + 1 : Nat) : Int)), none, none, none, none, none]) (s := tabS s (k.length + 1) (firstT k ps)) ⟨⟨_, _, _, _, rfl⟩, rfl⟩
  rw [upI_len] at e1
  have comp : ∀ a4 a5 a6 a7, loopC (nameG 8) yes (bin geG (bin ixG (bin ixG (varF 2) (varF 8)) (varF 8)) (cF (.int 0))) [some (.str k), some (.tup (ps.map Pr.d)), some (.ob (s.length + (k.length + 1))), some (.int ((k.length + 1 : Nat) : Int)), a4, a5, a6, a7, none] (upI 0 (k.length + 1)) [] (tabS s (k.length + 1) (allT k ps))
      = .val ((List.range (k.length + 1)).map fun a => .bl (decide (0 ≤ allT k ps a a))) (tabS s (k.length + 1) (allT k ps)) := by
    intro a4 a5 a6 a7
    rw [loopC_pure (p := fun _ => true) (v := fun d => match d with | .int i => .bl (decide (0 ≤ allT k ps i.toNat i.toNat)) | d => d)]
    · rw [List.filter_eq_self.mpr (fun _ _ => rfl)]
      simp [upI, Function.comp_def]
    · intro x hx
      obtain ⟨i, hi⟩ := List.getElem?_of_mem hx
      obtain ⟨rfl, hi2⟩ := upI_get hi
      rw [Int.zero_add]
      refine ⟨_, rfl, rfl, fun _ => ⟨?_, rfl⟩⟩
      have r1 : ixG (tabS s (k.length + 1) (allT k ps)) (.ob (s.length + (k.length + 1))) (.int (i : Int)) = .val (.ob (s.length + i)) (tabS s (k.length + 1) (allT k ps)) := ix_top i hi2 rfl
      have r2 : ixG (tabS s (k.length + 1) (allT k ps)) (.ob (s.length + i)) (.int (i : Int)) = .val (.int (allT k ps i i)) (tabS s (k.length + 1) (allT k ps)) := ix_row i i hi2 hi2 rfl
      simp -implicitDefEqProofs [-ixG_obD, r1, r2]
    · simp; omega
  have hb : blsD ((List.range (k.length + 1)).map fun a => D.bl (decide (0 ≤ allT k ps a a))) = some ((List.range (k.length + 1)).map fun a => decide (0 ≤ allT k ps a a)) := by
    generalize List.range (k.length + 1) = l
    induction l with
    | nil => rfl
    | cons a l ih => simp [blsD, ih]
  have hall : ((List.range (k.length + 1)).map fun a => decide (0 ≤ allT k ps a a)).all id = true ↔ Good k ps := by
    unfold Good
    simp [List.all_eq_true]
  have hch : Chk s (tabS s (k.length + 1) (allT k ps)) := Chk.app
  have htk : (tabS s (k.length + 1) (allT k ps)).take s.length = s := by unfold tabS; simp
  have hz : dfz s.length (tabS s (k.length + 1) (allT k ps)) 3 (.ob (s.length + (k.length + 1))) = some (tabD (k.length + 1) (allT k ps)) := by
    have h1 : ∀ i, i < k.length + 1 → dfz s.length (tabS s (k.length + 1) (allT k ps)) 2 (.ob (s.length + i)) = some (rowD (k.length + 1) (allT k ps) i) := fun i hi => by
      unfold dfz
      simp only [tab_row hi, rowO, if_pos (show s.length ≤ s.length + i by omega)]
      rw [mapM_some (g := fun d => d) (fun x hx => by obtain ⟨j, _, rfl⟩ := List.mem_map.mp hx; rfl)]
      simp [rowD]
    unfold dfz
    simp only [tab_top, if_pos (show s.length ≤ s.length + (k.length + 1) by omega)]
    rw [mapM_some (g := fun d => match d with | .ob j => rowD (k.length + 1) (allT k ps) (j - s.length) | d => d) (fun x hx => by
      unfold obsR at hx
      obtain ⟨i, hi, rfl⟩ := List.mem_map.mp hx
      rw [h1 i (List.mem_range.mp hi)]
      simp)]
    simp [tabD, obsR, Function.comp_def]
  have hi3 : allT k ps = fw (k.length + 1) (k.length + 1) (firstT k ps) := rfl
  rw [← hi3] at e1
  have hlen : lenG (tabS s (k.length + 1) (firstT k ps)) [.ob (s.length + (k.length + 1))] = .val (.int ((k.length + 1 : Nat) : Int)) (tabS s (k.length + 1) (firstT k ps)) := len_tab
  have hs : sm ((k.length + 1 : Nat) : Int) = true := sm_nat (by omega)
  by_cases g : Good k ps
  · have h2 := hall.mpr g
    have h3 : boundsR k ps = tabD (k.length + 1) (allT k ps) := by unfold boundsR; rw [if_pos g]
    have h4 : outF s (.rt (.ob (s.length + (k.length + 1))) (tabS s (k.length + 1) (allT k ps))) = .val (tabD (k.length + 1) (allT k ps)) s := by
      rw [outF_frz (by simp) hch hz, htk]
    have h5 : allG (tabS s (k.length + 1) (allT k ps)) [.lst ((List.range (k.length + 1)).map fun a => D.bl (decide (0 ≤ allT k ps a a)))] = .val (.bl true) (tabS s (k.length + 1) (allT k ps)) := by simp only [allG, view_lst, hb, h2]
    rw [h3]
    unfold m_all_bounds fnF
    simp -implicitDefEqProofs [-ixG_obD, -lenG_obD, -outF_rt, b_all_bounds, N_all_bounds, startD, hf, hlen, hs, e1, wipeD, comp, h5, h4, -Int.natCast_add]
  · have h3 : boundsR k ps = .non := by unfold boundsR; rw [if_neg g]
    have h2 : ((List.range (k.length + 1)).map fun a => decide (0 ≤ allT k ps a a)).all id = false := by
      cases q : ((List.range (k.length + 1)).map fun a => decide (0 ≤ allT k ps a a)).all id with
      | false => rfl
      | true => exact absurd (hall.mp q) g
    have h4 : outF s (.rt .non (tabS s (k.length + 1) (allT k ps))) = .val .non s := by
      rw [outF_rt rfl hch, htk]
    have h5 : allG (tabS s (k.length + 1) (allT k ps)) [.lst ((List.range (k.length + 1)).map fun a => D.bl (decide (0 ≤ allT k ps a a)))] = .val (.bl false) (tabS s (k.length + 1) (allT k ps)) := by simp only [allG, view_lst, hb, h2]
    rw [h3]
    unfold m_all_bounds fnF
    simp -implicitDefEqProofs [-ixG_obD, -lenG_obD, -outF_rt, b_all_bounds, N_all_bounds, startD, hf, hlen, hs, e1, wipeD, comp, h5, h4, -Int.natCast_add]
end Fl
set_option Elab.async false
set_option linter.all false
set_option maxRecDepth 100000
set_option maxHeartbeats 1000000
namespace Fl
open L2
theorem masked_spec {t : Nat} {s : Sto} {r : List Nat} (h : Tap t s) (hl : r.length ≤ 1000) :
    ∃ k s', m_law_masked [.ob t, .str r] s = .val (.str k) s' ∧ Dr t s s' ∧ k.length = r.length ∧ ∀ d : Nat, d < r.length → k[d]? = some 63 ∨ k[d]? = r[d]? := by
  obtain ⟨v, s1, e1, d1, v0, v4⟩ := draw h (show (1 : Int) ≤ 4 by decide) (by decide)
  have T1 := h.dr d1
  obtain ⟨δ', s', e2, f, o, rfl, d2, hf, hk⟩ := loop_inv (g := nameG 4) (body := l_law_masked_1) (xs := r.map fun c => D.str [c])
    (fun i δ s' => ∃ f o, δ = [some (.ob t), some (.str r), some (.int (1 + v)), some (.str f), o] ∧ Dr t s1 s' ∧ f.length = i ∧ ∀ d : Nat, d < i → f[d]? = some 63 ∨ f[d]? = r[d]?)
    (fun i x δ s' hx hI => by
      obtain ⟨f, o, rfl, d, hf, hk⟩ := hI
      rw [List.getElem?_map] at hx
      obtain ⟨ch, hc, rfl⟩ := Option.map_eq_some_iff.mp hx
      have hi : i < r.length := (List.getElem?_eq_some_iff.mp hc).1
      obtain ⟨u, s2, e, d', u0, u1⟩ := draw (many := 1 + v + 1) (T1.dr d) (by omega) (by omega)
      have hb : f.length + 1 ≤ 16000000 := by omega
      have grow : ∀ x : Nat, (x = 63 ∨ some x = r[i]?) → ∀ d : Nat, d < i + 1 → (f ++ [x])[d]? = some 63 ∨ (f ++ [x])[d]? = r[d]? := fun x hx d hd => by
        by_cases q : d < i
        · rw [List.getElem?_append_left (by omega)]; exact hk d q
        · obtain rfl : d = i := by omega
          rw [List.getElem?_append_right (by omega), hf]
          simp only [Nat.sub_self, List.getElem?_cons_zero]
          rcases hx with rfl | hx
          · exact .inl rfl
          · exact .inr hx
      by_cases hu : u = 0
      · refine ⟨_, s2, ?_, f ++ [ch], some (.str [ch]), rfl, d.trans d', by simp [hf], grow ch (.inr hc.symm)⟩
        simp -implicitDefEqProofs [turn, l_law_masked_1, e, hu, addG_str, hb]
      · refine ⟨_, s2, ?_, f ++ [63], some (.str [ch]), rfl, d.trans d', by simp [hf], grow 63 (.inl rfl)⟩
        simp -implicitDefEqProofs [turn, l_law_masked_1, e, hu, addG_str, hb])
    (δ := [some (.ob t), some (.str r), some (.int (1 + v)), some (.str []), none]) (s := s1) ⟨[], none, rfl, T1.refl, rfl, fun d hd => by omega⟩
  rw [List.length_map] at hf hk
  refine ⟨f, s', ?_, d1.trans d2, hf, hk⟩
  simp -implicitDefEqProofs [m_law_masked, fnF, b_law_masked, N_law_masked, startD, e1, e2, (d1.trans d2).take, (d1.trans d2).chk]
theorem masked_kn {k r : List Nat} (hr : Row r) (hl : k.length = r.length) (h : ∀ d : Nat, d < r.length → k[d]? = some 63 ∨ k[d]? = r[d]?) : Kn k := fun c hc => by
  obtain ⟨d, hd⟩ := List.getElem?_of_mem hc
  have := (List.getElem?_eq_some_iff.mp hd).1
  rcases h d (by omega) with q | q
  · rw [hd] at q; cases q; exact .inr (.inr rfl)
  · rw [hd] at q
    rcases hr c (List.mem_of_getElem? q.symm) with z | z
    · exact .inl z
    · exact .inr (.inl z)
theorem dueR_ge {r : List Nat} {lo c : Nat} (h : lo ≤ r.length) : lo ≤ dueR r lo c := by
  by_cases q : dueR r lo c < lo
  · have := (dueR_lt (r := r) (lo := lo) (c := c) (e := lo) (Nat.le_refl _) h).mp q
    rw [Nat.sub_self] at this
    simp [cw] at this
  · omega
theorem dueR_le_len {r : List Nat} {lo c : Nat} : dueR r lo c ≤ r.length ∨ r.length < lo := by
  by_cases h : lo ≤ r.length
  · left
    by_cases q : c < cw r lo (r.length - lo)
    · have := (dueR_lt (r := r) (lo := lo) (c := c) (e := r.length) h (Nat.le_refl _)).mpr q
      omega
    · rw [dueR_none (by omega)]; exact Nat.le_refl _
  · right; omega
theorem promise_spec5 {t : Nat} {s : Sto} {r : List Nat} (h : Tap t s) (hl : r.length ≤ 90) (h1 : 1 ≤ r.length) (hr : Row r) :
    ∃ p s', m_law_promise [.ob t, .str r] s = .val (Pr.d p) s' ∧ Dr t s s' ∧ p.ok r.length ∧ p.c ≤ 5 := by
  have hL : ∀ s, lenG s [.str r] = .val (.int r.length) s := fun s => lenG_str (by omega)
  obtain ⟨v1, s1, e1, d1, a1, b1⟩ := draw (many := r.length) h (by omega) (by omega)
  have T1 := h.dr d1
  obtain ⟨v2, s2, e2, d2, a2, b2⟩ := draw (many := 4) T1 (by omega) (by omega)
  have T2 := T1.dr d2
  have hmin : (if (6 : Int) < (r.length : Int) then (6 : Int) else (r.length : Int)) = min (r.length : Int) 6 := by omega
  obtain ⟨v3, s3, e3, d3, a3, b3⟩ := draw (many := min (r.length : Int) 6) T2 (by omega) (by omega)
  have T3 := T2.dr d3
  obtain ⟨lo, rfl⟩ := Int.eq_ofNat_of_zero_le a1
  obtain ⟨c, rfl⟩ := Int.eq_ofNat_of_zero_le a3
  have hd : ∀ s, m_law_due [.str r, .int ((lo : Int) - 1), .int (1 + (c : Int))] s = .val (.int (dueR r lo c)) s := fun s => by
    rw [Int.add_comm 1 (c : Int)]
    exact law_due_spec (by omega) hr (by omega)
  have hge := dueR_ge (r := r) (lo := lo) (c := c) (by omega)
  have hle : dueR r lo c ≤ r.length := by rcases dueR_le_len (r := r) (lo := lo) (c := c) with q | q <;> omega
  generalize dueR r lo c = due at hd hge hle
  obtain ⟨v4, s4, e4, d4, a4, b4⟩ := draw (many := (r.length : Int) - 1 - ((lo : Int) - 1)) T3 (by omega) (by omega)
  have T4 := T3.dr d4
  obtain ⟨v5, s5, e5, d5, a5, b5⟩ := draw (many := 6) T4 (by omega) (by omega)
  have T5 := T4.dr d5
  have D5 := (((d1.trans d2).trans d3).trans d4).trans d5
  obtain ⟨k, hk, hkk⟩ : ∃ k : List Nat, ixG s2 (.lst [.str [111, 110], .str [111, 110], .str [98, 121], .str [102, 114, 111, 109]]) (.int v2) = .val (.str k) s2 ∧ (k = kOn ∨ k = kBy ∨ k = kFrom) := by
    rcases (by omega : v2 = 0 ∨ v2 = 1 ∨ v2 = 2 ∨ v2 = 3) with rfl | rfl | rfl | rfl
    · exact ⟨kOn, by simp [kOn], .inl rfl⟩
    · exact ⟨kOn, by simp [kOn], .inl rfl⟩
    · exact ⟨kBy, by simp [kBy], .inr (.inl rfl)⟩
    · exact ⟨kFrom, by simp [kFrom], .inr (.inr rfl)⟩
  have z1 : (lo : Int) - 1 + 1 = lo := by omega
  have fin : ∀ (en : Int) (s' : Sto), Dr t s s' → (lo : Int) ≤ en → en < r.length → m_law_promise [.ob t, .str r] s = .val (.tup [.str k, .int ((lo : Int) - 1), .int (1 + (c : Int)), .int en]) s' → ∃ p s', m_law_promise [.ob t, .str r] s = .val (Pr.d p) s' ∧ Dr t s s' ∧ p.ok r.length ∧ p.c ≤ 5 := fun en s' dd q1 q2 e => by
    obtain ⟨e', rfl⟩ := Int.eq_ofNat_of_zero_le (show 0 ≤ en by omega)
    exact ⟨⟨k, lo, c, e'⟩, s', by rw [e, Pr.d, Int.add_comm 1 (c : Int)], dd, ⟨hkk, by show lo ≤ e'; omega, by show e' < r.length; omega, by show c < r.length; omega⟩, by show c ≤ 5; omega⟩
  by_cases hv : 0 < v5
  · rcases hkk with q | q | q
    · by_cases hdu : (due : Int) < r.length
      · refine fin due s5 D5 (by omega) (by omega) ?_
        simp -implicitDefEqProofs [m_law_promise, fnF, b_law_promise, N_law_promise, startD, hL, e1, e2, e3, hmin, hk, hd, e4, e5, hv, z1, q, kOn, hdu, D5.take, D5.chk]
      · refine fin (lo + v4) s5 D5 (by omega) (by omega) ?_
        simp -implicitDefEqProofs [m_law_promise, fnF, b_law_promise, N_law_promise, startD, hL, e1, e2, e3, hmin, hk, hd, e4, e5, hv, z1, q, kOn, hdu, D5.take, D5.chk]
    · by_cases hdu : (due : Int) < r.length
      · obtain ⟨v6, s6, e6, d6, a6, b6⟩ := draw (many := (r.length : Int) - due) T5 (by omega) (by omega)
        refine fin (due + v6) s6 (D5.trans d6) (by omega) (by omega) ?_
        simp -implicitDefEqProofs [m_law_promise, fnF, b_law_promise, N_law_promise, startD, hL, e1, e2, e3, hmin, hk, hd, e4, e5, hv, z1, q, kBy, hdu, e6, (D5.trans d6).take, (D5.trans d6).chk]
      · refine fin (lo + v4) s5 D5 (by omega) (by omega) ?_
        simp -implicitDefEqProofs [m_law_promise, fnF, b_law_promise, N_law_promise, startD, hL, e1, e2, e3, hmin, hk, hd, e4, e5, hv, z1, q, kBy, hdu, D5.take, D5.chk]
    · obtain ⟨v6, s6, e6, d6, a6, b6⟩ := draw (many := min (due : Int) ((r.length : Int) - 1) - ((lo : Int) - 1)) T5 (by omega) (by omega)
      have hmin2 : (if (r.length : Int) - 1 < (due : Int) then (r.length : Int) - 1 else (due : Int)) = min (due : Int) ((r.length : Int) - 1) := by omega
      refine fin (lo + v6) s6 (D5.trans d6) (by omega) (by omega) ?_
      simp -implicitDefEqProofs [m_law_promise, fnF, b_law_promise, N_law_promise, startD, hL, e1, e2, e3, hmin, hmin2, hk, hd, e4, e5, hv, z1, q, kFrom, e6, (D5.trans d6).take, (D5.trans d6).chk]
  · refine fin (lo + v4) s5 D5 (by omega) (by omega) ?_
    simp -implicitDefEqProofs [m_law_promise, fnF, b_law_promise, N_law_promise, startD, hL, e1, e2, e3, hmin, hk, hd, e4, e5, hv, z1, D5.take, D5.chk]
theorem promise_spec {t : Nat} {s : Sto} {r : List Nat} (h : Tap t s) (hl : r.length ≤ 90) (h1 : 1 ≤ r.length) (hr : Row r) :
    ∃ p s', m_law_promise [.ob t, .str r] s = .val (Pr.d p) s' ∧ Dr t s s' ∧ p.ok r.length := by
  obtain ⟨p, s', e, d, ok, _⟩ := promise_spec5 h hl h1 hr
  exact ⟨p, s', e, d, ok⟩
theorem promises_spec5 {t : Nat} {s : Sto} {r : List Nat} {most : Int} (h : Tap t s) (hl : r.length ≤ 90) (h1 : 1 ≤ r.length) (hr : Row r) (hm : 0 ≤ most) (hm2 : most ≤ 1000) :
    ∃ (ps : List Pr) (s' : Sto), m_law_promises [.ob t, .str r, .int most] s = .val (.tup (ps.map Pr.d)) s' ∧ Dr t s s' ∧ (∀ p ∈ ps, p.ok r.length ∧ p.c ≤ 5) ∧ (ps.length : Int) ≤ most := by
  obtain ⟨v, s1, e1, d1, v0, v1⟩ := draw (many := most + 1) h (by omega) (by omega)
  have T1 := h.dr d1
  obtain ⟨δ', s', e2, ps, o, rfl, d2, hp, hl2⟩ := loop_inv (g := nameG 4) (body := l_law_promises_1) (xs := upI 0 v.toNat)
    (fun i δ s' => ∃ (ps : List Pr) (o : Option D), δ = [some (.ob t), some (.str r), some (.int most), some (.tup (ps.map Pr.d)), o] ∧ Dr t s1 s' ∧ (∀ p ∈ ps, p.ok r.length ∧ p.c ≤ 5) ∧ ps.length = i)
    (fun i x δ s' hx hI => by
      obtain ⟨ps, o, rfl, d, hp, hl2⟩ := hI
      obtain ⟨rfl, hi⟩ := upI_get hx
      obtain ⟨p, s2, e, d', ok⟩ := promise_spec5 (T1.dr d) hl h1 hr
      have hb : (ps.map Pr.d).length + [Pr.d p].length ≤ 16000000 := by simp; omega
      refine ⟨_, s2, ?_, ps ++ [p], some (.int (0 + (i : Int))), rfl, d.trans d', fun q hq => ?_, by simp [hl2]⟩
      · simp -implicitDefEqProofs [turn, l_law_promises_1, e, addG_tup hb, show flat (Pr.d p) = true from rfl]
      · rcases List.mem_append.mp hq with z | z
        · exact hp q z
        · rw [List.mem_singleton.mp z]; exact ok)
    (δ := [some (.ob t), some (.str r), some (.int most), some (.tup []), none]) (s := s1) ⟨[], none, rfl, T1.refl, ⟨fun _ z => (by simp at z), rfl⟩⟩
  rw [upI_len] at hl2
  refine ⟨ps, s', ?_, d1.trans d2, hp, by omega⟩
  simp -implicitDefEqProofs [m_law_promises, fnF, b_law_promises, N_law_promises, startD, e1, sm_of (show -(2 ^ 60) ≤ v by omega) (by omega), e2, (d1.trans d2).take, (d1.trans d2).chk]
theorem promises_spec {t : Nat} {s : Sto} {r : List Nat} {most : Int} (h : Tap t s) (hl : r.length ≤ 90) (h1 : 1 ≤ r.length) (hr : Row r) (hm : 0 ≤ most) (hm2 : most ≤ 1000) :
    ∃ (ps : List Pr) (s' : Sto), m_law_promises [.ob t, .str r, .int most] s = .val (.tup (ps.map Pr.d)) s' ∧ Dr t s s' ∧ (∀ p ∈ ps, p.ok r.length) ∧ (ps.length : Int) ≤ most := by
  obtain ⟨ps, s', e, d, ok, hl⟩ := promises_spec5 h hl h1 hr hm hm2
  exact ⟨ps, s', e, d, fun p hp => (ok p hp).1, hl⟩
theorem case_spec {t : Nat} {s : Sto} {days most : Int} (h : Tap t s) (hd1 : 1 ≤ days) (hd : days ≤ 90) (hm : 0 ≤ most) (hm2 : most ≤ 1000) :
    ∃ (k : List Nat) (ps : List Pr) (s' : Sto), m_law_case [.ob t, .int days, .int most] s = .val (.tup [.str k, .tup (ps.map Pr.d)]) s' ∧ Dr t s s' ∧ Case k ps ∧ 1 ≤ k.length ∧ (k.length : Int) ≤ days ∧ (ps.length : Int) ≤ most := by
  obtain ⟨v, s1, e1, d1, v0, v1⟩ := draw (many := days) h (by omega) (by omega)
  have T1 := h.dr d1
  obtain ⟨r, s2, e2, d2, hl, hr⟩ := row_spec (n := 1 + v) T1 (by omega) (by omega)
  have T2 := T1.dr d2
  obtain ⟨k, s3, e3, d3, hk, hkk⟩ := masked_spec (r := r) T2 (by omega)
  have T3 := T2.dr d3
  obtain ⟨ps, s4, e4, d4, hp, hps⟩ := promises_spec (r := r) (most := most) T3 (by omega) (by omega) hr hm hm2
  have D4 := ((d1.trans d2).trans d3).trans d4
  refine ⟨k, ps, s4, ?_, D4, ⟨masked_kn hr hk hkk, by omega, by rw [hk]; exact hp⟩, by omega, by omega, hps⟩
  simp -implicitDefEqProofs [m_law_case, fnF, b_law_case, N_law_case, startD, e1, e2, e3, e4, D4.take, D4.chk]
/-! ### keeps, fits -/
theorem law_keeps_spec {r : List Nat} {p : Pr} {s : Sto} (hl : r.length ≤ 1000) (hr : Row r) (hk : p.k = kOn ∨ p.k = kBy ∨ p.k = kFrom) (hs : p.s ≤ 1000) : m_law_keeps [.str r, p.d] s = .val (.bl (keepsP r p)) s := by
  have h := @law_due_spec r p.s p.c s hl hr hs
  unfold keepsP
  generalize dueR r p.s p.c = due at h
  have main : ∀ k : List Nat, (k = [111, 110] ∨ k = [98, 121] ∨ k = [102, 114, 111, 109]) → m_law_keeps [.str r, .tup [.str k, .int ((p.s : Int) - 1), .int ((p.c : Int) + 1), .int (p.e : Int)]] s = .val (.bl (decide (due = p.e) || (k == [98, 121] && decide (due < p.e)) || (k == [102, 114, 111, 109] && decide (p.e < due)))) s := by
    intro k hk
    rcases Nat.lt_trichotomy due p.e with z | z | z
    · have f1 : ((due : Int) == (p.e : Int)) = false := by simp; omega
      have f2 : ¬ due = p.e := by omega
      have f3 : (due : Int) < p.e := by omega
      have f4 : ¬ (p.e : Int) < due := by omega
      have f5 : ¬ p.e < due := by omega
      rcases hk with rfl | rfl | rfl <;> simp -implicitDefEqProofs [m_law_keeps, fnF, b_law_keeps, N_law_keeps, startD, h, f1, f2, f3, f4, f5, z]
    · have f1 : ((due : Int) == (p.e : Int)) = true := by simp; omega
      rcases hk with rfl | rfl | rfl <;> simp -implicitDefEqProofs [m_law_keeps, fnF, b_law_keeps, N_law_keeps, startD, h, f1, z]
    · have f1 : ((due : Int) == (p.e : Int)) = false := by simp; omega
      have f2 : ¬ due = p.e := by omega
      have f3 : ¬ (due : Int) < p.e := by omega
      have f4 : (p.e : Int) < due := by omega
      have f5 : ¬ due < p.e := by omega
      rcases hk with rfl | rfl | rfl <;> simp -implicitDefEqProofs [m_law_keeps, fnF, b_law_keeps, N_law_keeps, startD, h, f1, f2, f3, f4, f5, z]
  unfold Pr.d
  rw [main p.k hk]
  congr 2
  rcases hk with e | e | e
  · rw [e, if_neg (by decide), if_neg (by decide)]
    by_cases q : due = p.e <;> simp [kOn, q]
  · rw [e, if_pos rfl]
    by_cases q : due ≤ p.e <;> by_cases q2 : due = p.e <;> simp [kBy, q, q2] <;> omega
  · rw [e, if_neg (by decide), if_pos rfl]
    by_cases q : p.e ≤ due <;> by_cases q2 : due = p.e <;> simp [kFrom, q, q2] <;> omega
def dayB (r k : List Nat) : Bool := (List.zip r k).all fun q => q.2 == q.1 || q.2 == 63
def fitsB (k : List Nat) (ps : List Pr) (r : List Nat) : Bool := dayB r k && ps.all (keepsP r)
theorem eq_nil {s : Sto} {ds : List D} (h : deps ds ≤ 59) : eqG s (.lst ds) (.lst []) = .val (.bl ds.isEmpty) s := by
  rw [eqG_def, if_pos (by simp; omega)]
  cases ds <;> simp
theorem ne_nil {s : Sto} {ds : List D} (h : deps ds ≤ 59) : neG s (.lst ds) (.lst []) = .val (.bl (!ds.isEmpty)) s := by
  rw [neG_def, if_pos (by simp; omega)]
  cases ds <;> simp
theorem deps_le {n : Nat} : ∀ {ds : List D}, (∀ d ∈ ds, dep d ≤ n) → deps ds ≤ n
  | [], _ => by simp
  | d :: ds, h => by
    have h1 := h d (by simp)
    have h2 := deps_le (ds := ds) (n := n) fun e he => h e (by simp [he])
    simp; omega
theorem pr_dep (p : Pr) : dep p.d = 1 := by simp [Pr.d]
theorem fits_spec {r k : List Nat} {ps : List Pr} {s : Sto} (hl : r.length ≤ 1000) (hl2 : k.length ≤ 1000) (hr : Row r) (hp : ∀ p ∈ ps, (p.k = kOn ∨ p.k = kBy ∨ p.k = kFrom) ∧ p.s ≤ 1000) (hps : ps.length ≤ 1000) :
    m_law_fits [.str r, .str k, .tup (ps.map Pr.d)] s = .val (.bl (fitsB k ps r)) s := by
  have c1 : loopC (tupG [(nameG 3), (nameG 4)]) (tst (bin ninG (varF 4) (tupE (con (varF 3) (con (cF (.str [63])) (nil)))))) (cF (.int 1)) [some (.str r), some (.str k), some (.tup (ps.map Pr.d)), none, none, none] (pairs (signs r) (signs k)) [] s
      = .val (((List.zip r k).filter fun q => !(q.2 == q.1 || q.2 == 63)).map fun _ => .int 1) s := by
    rw [loopC_pure (p := fun d => match d with | .tup [.str [a], .str [b]] => !(b == a || b == 63) | _ => false) (v := fun _ => .int 1)]
    · have e : pairs (signs r) (signs k) = (List.zip r k).map fun q => .tup [.str [q.1], .str [q.2]] := by
        unfold pairs signs
        rw [List.zipWith_map, List.zip_eq_zipWith, List.map_zipWith]
      rw [e, List.filter_map, List.map_map]
      simp [Function.comp_def]
    · intro z hz
      unfold pairs signs at hz
      rw [List.zipWith_map] at hz
      obtain ⟨i, hi⟩ := List.getElem?_of_mem hz
      rw [List.getElem?_zipWith] at hi
      obtain ⟨a, b, rfl⟩ : ∃ a b : Nat, z = .tup [.str [a], .str [b]] := by
        split at hi
        · exact ⟨_, _, (Option.some.inj hi).symm⟩
        · cases hi
      refine ⟨_, rfl, ?_, fun _ => ⟨rfl, rfl⟩⟩
      have hin : ninG s (.str [b]) (.tup [.str [a], .str [63]]) = .val (.bl (!(b == a || b == 63))) s := by
        have e1 : (a == b) = (b == a) := by rw [Bool.eq_iff_iff]; simp; exact eq_comm
        have e2 : ((63 : Nat) == b) = (b == 63) := by rw [Bool.eq_iff_iff]; simp; exact eq_comm
        simp [ninG, inB, atomD, isIn, e1, e2]
      simp -implicitDefEqProofs [hin]
    · simp [pairs, signs]; omega
  have c2 : loopC (nameG 5) (notT (tst (callF 2 m_law_keeps (con (varF 0) (con (varF 5) (nil)))))) (varF 5) [some (.str r), some (.str k), some (.tup (ps.map Pr.d)), none, none, none] (ps.map Pr.d) [] s
      = .val ((ps.filter fun p => !keepsP r p).map Pr.d) s := by
    have key : ∀ (qs : List Pr) (acc : List D), (∀ q ∈ qs, q ∈ ps) → acc.length + qs.length ≤ 16000000 → loopC (nameG 5) (notT (tst (callF 2 m_law_keeps (con (varF 0) (con (varF 5) (nil)))))) (varF 5) [some (.str r), some (.str k), some (.tup (ps.map Pr.d)), none, none, none] (qs.map Pr.d) acc s = .val (acc ++ (qs.filter fun p => !keepsP r p).map Pr.d) s := by
      intro qs
      induction qs with
      | nil => intro acc _ _; simp
      | cons q qs ih =>
        intro acc hq hl
        simp only [List.length_cons] at hl
        obtain ⟨g1, g2⟩ := hp q (hq q (by simp))
        have hk := @law_keeps_spec r q s (by assumption) hr g1 g2
        rw [List.map_cons, loopC_cons]
        cases hb : keepsP r q with
        | true =>
          rw [hb] at hk
          simp -implicitDefEqProofs [hk, ih acc (fun z hz => hq z (by simp [hz])) (by omega), hb]
        | false =>
          rw [hb] at hk
          have := ih (acc ++ [q.d]) (fun z hz => hq z (by simp [hz])) (by simp; omega)
          simp -implicitDefEqProofs [hk, this, hb, show flat q.d = true from rfl, show acc.length < 16000000 by omega]
    simpa using key ps [] (fun _ h => h) (by simp; omega)
  have n1 : neG s (.lst (((List.zip r k).filter fun q => !(q.2 == q.1 || q.2 == 63)).map fun _ => D.int 1)) (.lst []) = .val (.bl (!dayB r k)) s := by
    rw [ne_nil (by refine Nat.le_trans (deps_le (n := 0) fun d hd => ?_) (by decide); obtain ⟨_, _, rfl⟩ := List.mem_map.mp hd; simp)]
    congr 3
    unfold dayB
    rw [List.isEmpty_map, Bool.eq_iff_iff, List.isEmpty_iff, List.filter_eq_nil_iff, List.all_eq_true]
    constructor
    · intro h q hq
      cases e : (q.2 == q.1 || q.2 == 63) with
      | true => rfl
      | false => exact absurd (by rw [e]; rfl) (h q hq)
    · intro h q hq
      rw [h q hq]; decide
  have n2 : eqG s (.lst ((ps.filter fun p => !keepsP r p).map Pr.d)) (.lst []) = .val (.bl (ps.all (keepsP r))) s := by
    rw [eq_nil (by refine Nat.le_trans (deps_le (n := 1) fun d hd => ?_) (by decide); obtain ⟨p, _, rfl⟩ := List.mem_map.mp hd; rw [pr_dep]; exact Nat.le_refl _)]
    congr 2
    rw [List.isEmpty_map, Bool.eq_iff_iff, List.isEmpty_iff, List.filter_eq_nil_iff, List.all_eq_true]
    simp
  unfold fitsB
  generalize (((List.zip r k).filter fun q => !(q.2 == q.1 || q.2 == 63)).map fun _ => D.int 1) = ds1 at c1 n1
  generalize ((ps.filter fun p => !keepsP r p).map Pr.d) = ds2 at c2 n2
  cases hb : dayB r k with
  | true =>
    rw [hb] at n1
    simp -implicitDefEqProofs [-eqG_def, -neG_def, m_law_fits, fnF, b_law_fits, N_law_fits, startD, wipeD, c1, c2, n1, n2, zipF]
  | false =>
    rw [hb] at n1
    simp -implicitDefEqProofs [-eqG_def, -neG_def, m_law_fits, fnF, b_law_fits, N_law_fits, startD, wipeD, c1, n1, zipF]
theorem fitsB_iff {k r : List Nat} {ps : List Pr} (hl : r.length = k.length) (hr : Row r) : fitsB k ps r = true ↔ Fits k ps r := by
  have hz : dayB r k = true ↔ ∀ d : Nat, d < k.length → k[d]? = some 63 ∨ k[d]? = r[d]? := by
    unfold dayB
    rw [List.all_eq_true]
    constructor
    · intro h d hd
      have h1 : r[d]? = some r[d] := List.getElem?_eq_getElem (by omega)
      have h2 : k[d]? = some k[d] := List.getElem?_eq_getElem hd
      have hm : (r[d], k[d]) ∈ List.zip r k := List.mem_of_getElem? (i := d) (by rw [List.getElem?_zip_eq_some]; exact ⟨h1, h2⟩)
      have := h _ hm
      simp only [Bool.or_eq_true, beq_iff_eq] at this
      rw [h1, h2]
      rcases this with q | q
      · right; rw [q]
      · left; rw [q]
    · rintro h ⟨a, b⟩ hm
      obtain ⟨d, hd⟩ := List.getElem?_of_mem hm
      rw [List.getElem?_zip_eq_some] at hd
      obtain ⟨h1, h2⟩ := hd
      have hd : d < k.length := (List.getElem?_eq_some_iff.mp h2).1
      have := h d hd
      simp only at h1 h2
      rw [h1, h2] at this
      simp only [Bool.or_eq_true, beq_iff_eq]
      rcases this with q | q
      · right; exact Option.some.inj q
      · left; exact Option.some.inj q
  unfold fitsB
  rw [Bool.and_eq_true, hz, List.all_eq_true]
  exact ⟨fun h => ⟨hr, hl, h.1, h.2⟩, fun h => ⟨h.day, h.kp⟩⟩
/-! ### all rows -/
def ext (c : Nat) : List Nat := if c = 63 then [102, 119] else [c]
def growR (found : List (List Nat)) (c : Nat) : List (List Nat) := found.flatMap fun r => (ext c).map fun x => r ++ [x]
def allR : List Nat → List (List Nat)
  | k => k.foldl growR [[]]
def rowsR (k : List Nat) (ps : List Pr) : List (List Nat) := (allR k).filter (fitsB k ps)
theorem allR_snoc (k : List Nat) (c : Nat) : allR (k ++ [c]) = growR (allR k) c := by simp [allR]
theorem take_snoc {α : Type} {l : List α} {i : Nat} {x : α} (h : l[i]? = some x) : l.take (i + 1) = l.take i ++ [x] := by
  rw [List.take_add_one, h]; rfl
theorem allR_mem {k : List Nat} : ∀ (i : Nat), i ≤ k.length → Kn k → ∀ r, r ∈ allR (k.take i) ↔ r.length = i ∧ Row r ∧ ∀ d : Nat, d < i → k[d]? = some 63 ∨ k[d]? = r[d]?
  | 0, _, _, r => by
    simp only [List.take_zero, allR, List.foldl_nil, List.mem_singleton]
    constructor
    · rintro rfl; exact ⟨rfl, ⟨fun c hc => by simp at hc, fun d hd => by omega⟩⟩
    · rintro ⟨h, _⟩; exact List.length_eq_zero_iff.mp h
  | i + 1, hi, hk, r => by
    have ih := allR_mem i (by omega) hk
    have hc : k[i]? = some k[i] := List.getElem?_eq_getElem (by omega)
    have kc := hk k[i] (List.getElem_mem (by omega))
    rw [take_snoc hc, allR_snoc]
    unfold growR
    rw [List.mem_flatMap]
    constructor
    · rintro ⟨q, hq, hm⟩
      obtain ⟨x, hx, rfl⟩ := List.mem_map.mp hm
      obtain ⟨h1, h2, h3⟩ := (ih q).mp hq
      have hx2 : (x = 119 ∨ x = 102) ∧ (k[i] = 63 ∨ k[i] = x) := by
        unfold ext at hx
        split at hx
        · rename_i e
          refine ⟨?_, .inl e⟩
          simp at hx; omega
        · rename_i e
          obtain rfl := List.mem_singleton.mp hx
          refine ⟨?_, .inr rfl⟩
          omega
      refine ⟨by simp [h1], fun c hcm => ?_, fun d hd => ?_⟩
      · rcases List.mem_append.mp hcm with z | z
        · exact h2 c z
        · rw [List.mem_singleton.mp z]; exact hx2.1
      · by_cases e : d < i
        · rw [List.getElem?_append_left (by omega)]; exact h3 d e
        · obtain rfl : d = i := by omega
          rw [List.getElem?_append_right (by omega), h1, hc]
          rcases hx2.2 with z | z
          · left; rw [z]
          · right; simp [z]
    · rintro ⟨h1, h2, h3⟩
      have hlast : r[i]? = some r[i] := List.getElem?_eq_getElem (by omega)
      have hr : r = r.take i ++ [r[i]] := by rw [← take_snoc hlast, ← h1, List.take_length]
      refine ⟨r.take i, (ih _).mpr ⟨by simp; omega, fun c hc => h2 c (List.mem_of_mem_take hc), fun d hd => ?_⟩, List.mem_map.mpr ⟨r[i], ?_, hr.symm⟩⟩
      · rw [List.getElem?_take_of_lt hd]; exact h3 d (by omega)
      · have h4 := h3 i (by omega)
        have h5 := h2 r[i] (List.getElem_mem _)
        rw [hc, hlast] at h4
        unfold ext
        by_cases e : k[i] = 63
        · rw [if_pos e]; simp; omega
        · rw [if_neg e]
          rcases h4 with z | z
          · exact absurd (Option.some.inj z) e
          · rw [Option.some.inj z]; simp
theorem allR_len : ∀ (k : List Nat) (i : Nat), (allR (k.take i)).length ≤ 2 ^ i
  | k, 0 => by simp [allR]
  | k, i + 1 => by
    have ih := allR_len k i
    cases h : k[i]? with
    | none =>
      rw [List.take_add_one, h]
      simp only [Option.toList_none, List.append_nil]
      rw [Nat.pow_succ]; omega
    | some c =>
      rw [take_snoc h, allR_snoc]
      unfold growR
      rw [List.length_flatMap, Nat.pow_succ]
      have key : ∀ l : List (List Nat), (l.map fun r => ((ext c).map fun x => r ++ [x]).length).sum ≤ l.length * 2 := by
        intro l
        induction l with
        | nil => simp
        | cons a l ih =>
          simp only [List.map_cons, List.sum_cons, List.length_map, List.length_cons] at ih ⊢
          have : (ext c).length ≤ 2 := by unfold ext; split <;> simp
          omega
      have := key (allR (k.take i))
      omega
theorem rows_mem {k : List Nat} {ps : List Pr} (hk : Kn k) (r : List Nat) : r ∈ rowsR k ps ↔ Fits k ps r := by
  unfold rowsR
  rw [List.mem_filter]
  have h := allR_mem (k := k) k.length (Nat.le_refl _) hk r
  rw [List.take_length] at h
  rw [h]
  constructor
  · rintro ⟨⟨h1, h2, h3⟩, h4⟩; exact (fitsB_iff h1 h2).mp h4
  · intro f; exact ⟨⟨f.len, f.row, f.day⟩, (fitsB_iff f.len f.row).mpr f⟩
def strsL (rs : List (List Nat)) : List D := rs.map D.str
theorem rows_turn2 {s : Sto} {c : Nat} (hc : c = 119 ∨ c = 102 ∨ c = 63) {r : List Nat} {longer : List (List Nat)} {a0 a1 a2 a5 : Option D} (hr : r.length ≤ 1000) (hb : longer.length ≤ 100000) :
    turn (nameG 5) l_law_rows_1 (.str r) [a0, a1, a2, some (.str [c]), some (.lst (strsL longer)), a5, none] s = .nx [a0, a1, a2, some (.str [c]), some (.lst (strsL (longer ++ (ext c).map fun x => r ++ [x]))), some (.str r), none] s := by
  have i1 : ∀ x : Nat, inG s (.str [c]) (.tup [.str [x], .str [63]]) = .val (.bl (x == c || 63 == c)) s := fun x => by
    simp [inG, inB, atomD, isIn]
  have b1 : r.length + 1 ≤ 16000000 := by omega
  have a1' : ∀ x : Nat, addG s (.str r) (.str [x]) = .val (.str (r ++ [x])) s := fun x => addG_str (by simp; omega)
  have a2' : ∀ l : List D, l.length ≤ 5 → addG s (.lst (strsL longer)) (.lst l) = .val (.lst (strsL longer ++ l)) s := fun l hl => addG_lst (by simp [strsL]; omega)
  rcases hc with rfl | rfl | rfl
  · simp -implicitDefEqProofs [turn, l_law_rows_1, wipeD, loopC_cons, i1, a1', a2', ext, strsL]
    have := a2' [.str (r ++ [119])] (by simp)
    unfold strsL at this
    rw [this]; simp
  · simp -implicitDefEqProofs [turn, l_law_rows_1, wipeD, loopC_cons, i1, a1', a2', ext, strsL]
    have := a2' [.str (r ++ [102])] (by simp)
    unfold strsL at this
    rw [this]; simp
  · simp -implicitDefEqProofs [turn, l_law_rows_1, wipeD, loopC_cons, i1, a1', a2', ext, strsL]
    have := a2' [.str (r ++ [102]), .str (r ++ [119])] (by simp)
    unfold strsL at this
    rw [this]; simp
theorem rows_spec {k : List Nat} {ps : List Pr} {s : Sto} (c : Case k ps) (hl : k.length ≤ 14) (hps : ps.length ≤ 1000) : m_law_rows [.str k, .tup (ps.map Pr.d)] s = .val (.lst (strsL (rowsR k ps))) s := by
  have hlen : ∀ i, i ≤ 14 → (allR (k.take i)).length ≤ 16384 := fun i hi => Nat.le_trans (allR_len k i) (Nat.pow_le_pow_right (by decide) hi)
  have hrl : ∀ i, i ≤ k.length → ∀ r ∈ allR (k.take i), r.length = i := fun i hi r hr => ((allR_mem i hi c.kn r).mp hr).1
  obtain ⟨δ1, s1, e1, ⟨b3, b4, b5, rfl⟩, rfl⟩ := loop_inv (g := nameG 3) (body := l_law_rows_2) (xs := k.map fun c => D.str [c])
    (fun i δ s' => (∃ a3 a4 a5, δ = [some (.str k), some (.tup (ps.map Pr.d)), some (.lst (strsL (allR (k.take i)))), a3, a4, a5, none]) ∧ s = s')
    (fun i x δ s' hx hI => by
      obtain ⟨⟨a3, a4, a5, rfl⟩, rfl⟩ := hI
      rw [List.getElem?_map] at hx
      obtain ⟨ch, h1, rfl⟩ := Option.map_eq_some_iff.mp hx
      have hi : i < k.length := (List.getElem?_eq_some_iff.mp h1).1
      have hch := c.kn ch (List.mem_of_getElem? h1)
      have hlen' : (growR (allR (k.take i)) ch).length ≤ 16384 := by
        have := hlen (i + 1) (by omega)
        rw [take_snoc h1, allR_snoc] at this; exact this
      obtain ⟨δ2, s2, e2, ⟨b5, rfl⟩, rfl⟩ := loop_inv (g := nameG 5) (body := l_law_rows_1) (xs := strsL (allR (k.take i)))
        (fun j δ s' => (∃ a5, δ = [some (.str k), some (.tup (ps.map Pr.d)), some (.lst (strsL (allR (k.take i)))), some (.str [ch]), some (.lst (strsL (growR ((allR (k.take i)).take j) ch))), a5, none]) ∧ s = s')
        (fun j x δ s' hx hI => by
          obtain ⟨⟨a5, rfl⟩, rfl⟩ := hI
          unfold strsL at hx
          rw [List.getElem?_map] at hx
          obtain ⟨r, h2, rfl⟩ := Option.map_eq_some_iff.mp hx
          have hr := hrl i (by omega) r (List.mem_of_getElem? h2)
          have hg : growR ((allR (k.take i)).take (j + 1)) ch = growR ((allR (k.take i)).take j) ch ++ (ext ch).map fun x => r ++ [x] := by
            unfold growR
            rw [take_snoc h2, List.flatMap_append]; simp
          have hb : (growR ((allR (k.take i)).take j) ch).length ≤ 100000 := by
            have : (growR (allR (k.take i)) ch) = growR ((allR (k.take i)).take j) ch ++ growR ((allR (k.take i)).drop j) ch := by
              unfold growR
              rw [← List.flatMap_append, List.take_append_drop]
            rw [this, List.length_append] at hlen'
            omega
          refine ⟨_, _, rows_turn2 hch (by omega) hb, ⟨_, by rw [hg]⟩, rfl⟩)
        (δ := [some (.str k), some (.tup (ps.map Pr.d)), some (.lst (strsL (allR (k.take i)))), some (.str [ch]), some (.lst []), a5, none]) (s := s) ⟨⟨_, rfl⟩, rfl⟩
      rw [show (strsL (allR (k.take i))).length = (allR (k.take i)).length by simp [strsL], List.take_length] at e2
      refine ⟨[some (.str k), some (.tup (ps.map Pr.d)), some (.lst (strsL (growR (allR (k.take i)) ch))), some (.str [ch]), some (.lst (strsL (growR (allR (k.take i)) ch))), b5, none], s, ?_, ⟨_, _, _, by rw [take_snoc h1, allR_snoc]⟩, rfl⟩
      simp -implicitDefEqProofs [turn, l_law_rows_2, e2])
    (δ := [some (.str k), some (.tup (ps.map Pr.d)), some (.lst [.str []]), none, none, none, none]) (s := s) ⟨⟨_, _, _, rfl⟩, rfl⟩
  rw [List.length_map, List.take_length] at e1
  have c1 : loopC (nameG 5) (tst (callF 3 m_law_fits (con (varF 5) (con (varF 0) (con (varF 1) (nil)))))) (varF 5) [some (.str k), some (.tup (ps.map Pr.d)), some (.lst (strsL (allR k))), b3, b4, none, none] (strsL (allR k)) [] s = .val (strsL (rowsR k ps)) s := by
    have hm := hrl k.length (Nat.le_refl _)
    rw [List.take_length] at hm
    rw [loopC_pure (p := fun d => match d with | .str r => fitsB k ps r | _ => false) (v := fun d => d)]
    · unfold strsL rowsR
      rw [List.filter_map]
      simp [Function.comp_def]
    · intro z hz
      unfold strsL at hz
      obtain ⟨r, hr, rfl⟩ := List.mem_map.mp hz
      have hmr := (allR_mem (k := k) k.length (Nat.le_refl _) c.kn r).mp (by rw [List.take_length]; exact hr)
      refine ⟨_, rfl, ?_, fun _ => ⟨rfl, rfl⟩⟩
      have hf := @fits_spec r k ps s (by omega) (by omega) hmr.2.1 (fun p hp => ⟨(c.ok p hp).kd, by have := (c.ok p hp).se; have := (c.ok p hp).en; omega⟩) hps
      simp -implicitDefEqProofs [hf]
    · have := hlen k.length (by omega)
      rw [List.take_length] at this
      simp [strsL]; omega
  simp -implicitDefEqProofs [m_law_rows, fnF, b_law_rows, N_law_rows, startD, e1, wipeD, c1]
end Fl
set_option Elab.async false
set_option linter.all false
set_option maxRecDepth 100000
set_option maxHeartbeats 1000000
namespace Fl
open L2
theorem ixG_tabD {s : Sto} {N : Nat} {T : Tb} {x : Int} (i : Nat) (h : i < N) (hx : x = i) : ixG s (tabD N T) (.int x) = .val (rowD N T i) s := by
  subst hx
  exact ixG_lst (atI_nat (by rw [List.getElem?_map, List.getElem?_range h]; rfl))
theorem ixG_rowD {s : Sto} {N : Nat} {T : Tb} {i : Nat} {x : Int} (j : Nat) (h : j < N) (hx : x = j) : ixG s (rowD N T i) (.int x) = .val (.int (T i j)) s := by
  subst hx
  exact ixG_lst (atI_nat (by rw [List.getElem?_map, List.getElem?_range h]; rfl))
theorem cut_take {α : Type} {ds : List α} {i : Nat} (h : i ≤ ds.length) : cutD ds none (some (i : Int)) = ds.take i := by
  unfold cutD
  rw [HT.sIx_none, HT.sIx_nat, Nat.min_eq_left h, List.drop_zero, Nat.sub_zero]
theorem cut_drop {α : Type} {ds : List α} {i : Nat} {x : Int} (hx : x = i) : cutD ds (some x) none = ds.drop i := by
  subst hx
  unfold cutD
  rw [HT.sIx_none, HT.sIx_nat]
  by_cases h : i ≤ ds.length
  · rw [Nat.min_eq_left h, List.take_of_length_le (by simp)]
  · rw [Nat.min_eq_right (by omega), Nat.sub_self, List.take_zero, List.drop_of_length_le (by omega)]
@[simp] theorem e_slF {g : Sto → D → Option Int → Option Int → O D} {fa : EF} {lo hi : PF} {δ : Sl} {s : Sto} : slF g fa lo hi δ s = (fa δ s).bind fun x s1 => (lo δ s1).bind fun l s2 => (hi δ s2).bind fun u s3 => g s3 x l u := rfl
@[simp] theorem e_noP {δ : Sl} {s : Sto} : noP δ s = .val none s := rfl
@[simp] theorem e_parF {f : EF} {δ : Sl} {s : Sto} : parF f δ s = (f δ s).bind fun d s1 => match d with
  | .int i => .val (some i) s1
  | _ => .stuck := rfl
@[simp] theorem slG_tup {s : Sto} {ds : List D} {lo hi : Option Int} : slG s (.tup ds) lo hi = .val (.tup (cutD ds lo hi)) s := rfl
@[simp] theorem slG_lst {s : Sto} {ds : List D} {lo hi : Option Int} : slG s (.lst ds) lo hi = .val (.lst (cutD ds lo hi)) s := rfl
theorem loopA_filter {g : GF} {t : BF} {e : EF} {δ : Sl} {s : Sto} (p : D → Bool) (v : D → D) : ∀ (xs acc : List D), (∀ x ∈ xs, ∃ δ1, g x δ s = .val δ1 s ∧ t δ1 s = .val (p x) s ∧ (p x = true → e δ1 s = .val (v x) s)) → acc.length + xs.length ≤ 16000000 →
    loopA g t e δ xs acc s = .val (acc ++ (xs.filter p).map v) s
  | [], acc, _, _ => by simp
  | x :: xs, acc, h, hl => by
    obtain ⟨δ1, h1, h2, h3⟩ := h x (by simp)
    have ih := fun acc' hl' => loopA_filter p v xs acc' (fun y hy => h y (by simp [hy])) hl'
    simp only [List.length_cons] at hl
    rw [loopA_cons, h1, noX_val, O.bind_val, h2, quiet_val, O.bind_val]
    cases hp : p x with
    | false =>
      rw [if_neg (by decide), ih _ (by omega)]
      simp [hp]
    | true =>
      rw [if_pos rfl, h3 hp, quiet_val, O.bind_val, if_pos (by omega), ih _ (by simp; omega)]
      simp [hp]
def natsD (xs : List Nat) : List D := xs.map fun (i : Nat) => D.int (i : Int)
theorem numbered_eq (ds : List D) : numbered 0 ds = (List.range ds.length).map fun i => .tup [.int (i : Int), ds.getD i .non] := by
  apply List.ext_getElem?
  intro i
  rw [numbered_get, List.getElem?_map, Nat.zero_add]
  by_cases h : i < ds.length
  · rw [List.getElem?_range h, List.getElem?_eq_getElem h]
    simp [List.getD, List.getElem?_eq_getElem h]
  · rw [List.getElem?_eq_none (by omega), List.getElem?_eq_none (by simp; omega)]; rfl
theorem Tap.lt {t : Nat} {s : Sto} (h : Tap t s) : t < s.length := by
  obtain ⟨p, _, e⟩ := h
  exact (List.getElem?_eq_some_iff.mp e).1
theorem Tap.app {t : Nat} {s j : Sto} (h : Tap t s) : Tap t (s ++ j) := by
  obtain ⟨p, ok, e⟩ := h
  exact ⟨p, ok, by rw [List.getElem?_append_left (List.getElem?_eq_some_iff.mp e).1]; exact e⟩
theorem Tap.set {t d : Nat} {s : Sto} {o : SO} (h : Tap t s) (ne : d ≠ t) : Tap t (s.set d o) := by
  obtain ⟨p, ok, e⟩ := h
  exact ⟨p, ok, by rw [List.getElem?_set_ne ne]; exact e⟩
theorem bad_comp {t : BF} {δ : Sl} {s : Sto} {rows : List (List Nat)} {f : List Nat → Bool} {i : Nat} (hi : i < δ.length) (hl : rows.length ≤ 16000000) (ht : ∀ r ∈ rows, t (δ.set i (some (.str r))) s = .val (f r) s) :
    loopC (nameG i) t (varF i) δ (strsL rows) [] s = .val (strsL (rows.filter f)) s := by
  rw [loopC_pure (p := fun d => match d with | .str r => f r | _ => false) (v := fun d => d)]
  · unfold strsL
    rw [List.filter_map]
    simp [Function.comp_def]
  · intro z hz
    unfold strsL at hz
    obtain ⟨r, hr, rfl⟩ := List.mem_map.mp hz
    refine ⟨_, rfl, ht r hr, fun _ => ⟨?_, rfl⟩⟩
    rw [e_var, List.getElem?_set_self hi]
  · simp [strsL]; omega
theorem strs_deps (rows : List (List Nat)) : deps (strsL rows) ≤ 0 := deps_le fun d hd => by
  obtain ⟨r, _, rfl⟩ := List.mem_map.mp hd; simp
theorem rows_len {k : List Nat} {ps : List Pr} (hl : k.length ≤ 14) : (rowsR k ps).length ≤ 16384 := by
  have h1 := allR_len k k.length
  rw [List.take_length] at h1
  exact Nat.le_trans (List.length_filter_le _ _) (Nat.le_trans h1 (Nat.pow_le_pow_right (by decide) hl))
@[simp] theorem e_meB {t : Sto → D → Bool} {g : Sto → D → List D → O D} {fa : EF} {fr : AF} {δ : Sl} {s : Sto} : meB' t g fa fr δ s = (fa δ s).bind fun x s1 => if t s1 x = true then (fr δ s1).bind fun xs s2 => g s2 x xs else .stuck := rfl
theorem app_at {s : Sto} {k : Nat} {ds : List D} {d : D} (h : s[k]? = some (.lst ds)) (hl : ds.length < 16000000) : isOwn s (.ob k) = true ∧ appG s (.ob k) [d] = .val .non (s.set k (.lst (ds ++ [d]))) := by
  constructor
  · simp only [isOwn, h]
  · simp only [appG, h, if_pos hl]
theorem okDs_map {α : Type} {f : α → D} (h : ∀ a, okD (f a) = true) : ∀ l : List α, okDs (l.map f) = true
  | [] => by simp [okDs]
  | a :: l => by simp [okDs, h a, okDs_map h l]
theorem flats_map {α : Type} {f : α → D} (h : ∀ a, flat (f a) = true) : ∀ l : List α, flats (l.map f) = true
  | [] => rfl
  | a :: l => by simp [h a, flats_map h l]
theorem nats_ok (xs : List Nat) (h : xs.length ≤ 1000) : okD (.lst (natsD xs)) = true := by
  rw [okD, Bool.and_eq_true, decide_eq_true_eq]
  exact ⟨by simp [natsD]; omega, okDs_map (fun _ => by simp [okD]) xs⟩
theorem nats_dep (xs : List Nat) : deps (natsD xs) ≤ 0 := deps_le fun d hd => by
  obtain ⟨i, _, rfl⟩ := List.mem_map.mp hd; simp
theorem nats_flat (xs : List Nat) : flats (natsD xs) = true := flats_map (fun _ => rfl) xs
end Fl
set_option Elab.async false
set_option linter.all false
set_option maxRecDepth 100000
set_option maxHeartbeats 1000000
namespace Fl
open L2
theorem isnt_tabD {s : Sto} {N : Nat} {T : Tb} : isntG s (tabD N T) .non = .val (.bl true) s := rfl
theorem is_tabD {s : Sto} {N : Nat} {T : Tb} : isNG s (tabD N T) .non = .val (.bl false) s := rfl
theorem flat_tabD {N : Nat} {T : Tb} : flat (tabD N T) = true := rfl
theorem boundsR_good {k : List Nat} {ps : List Pr} (g : Good k ps) : boundsR k ps = tabD (k.length + 1) (allT k ps) := by unfold boundsR; rw [if_pos g]
theorem boundsR_bad {k : List Nat} {ps : List Pr} (g : ¬ Good k ps) : boundsR k ps = .non := by unfold boundsR; rw [if_neg g]
noncomputable def goodB (k : List Nat) (ps : List Pr) : Bool := @decide (Good k ps) (Classical.propDecidable _)
theorem goodB_iff {k : List Nat} {ps : List Pr} : goodB k ps = true ↔ Good k ps := by unfold goodB; exact @decide_eq_true_iff _ (Classical.propDecidable _)
theorem possible_spec {s : Sto} {k : List Nat} {ps : List Pr} (c : Case k ps) : m_is_possible [.str k, .tup (ps.map Pr.d)] s = .val (.bl (goodB k ps)) s := by
  have ha := all_spec (s := s) c
  by_cases g : Good k ps
  · rw [boundsR_good g] at ha
    rw [goodB_iff.mpr g]
    have h := @isnt_tabD s (k.length + 1) (allT k ps)
    generalize tabD (k.length + 1) (allT k ps) = tb at ha h
    simp -implicitDefEqProofs [m_is_possible, fnF, b_is_possible, N_is_possible, startD, ha, h]
  · rw [boundsR_bad g] at ha
    have : goodB k ps = false := by
      cases q : goodB k ps with
      | false => rfl
      | true => exact absurd (goodB_iff.mp q) g
    rw [this]
    simp -implicitDefEqProofs [m_is_possible, fnF, b_is_possible, N_is_possible, startD, ha]
theorem range_spec {s : Sto} {N : Nat} {T : Tb} {i j : Nat} (hi : i < N) (hj : j + 1 < N) : m_range_of [tabD N T, .int (i : Int), .int (j : Int)] s = .val (.tup [.int (-T (j + 1) i), .int (T i (j + 1))]) s := by
  have r1 : ∀ s, ixG s (tabD N T) (.int ((j : Int) + 1)) = .val (rowD N T (j + 1)) s := fun s => ixG_tabD (j + 1) hj (by omega)
  have r2 : ∀ s, ixG s (rowD N T (j + 1)) (.int (i : Int)) = .val (.int (T (j + 1) i)) s := fun s => ixG_rowD i hi rfl
  have r3 : ∀ s, ixG s (tabD N T) (.int (i : Int)) = .val (rowD N T i) s := fun s => ixG_tabD i hi rfl
  have r4 : ∀ s, ixG s (rowD N T i) (.int ((j : Int) + 1)) = .val (.int (T i (j + 1))) s := fun s => ixG_rowD (j + 1) hj (by omega)
  generalize tabD N T = tb at *
  generalize rowD N T (j + 1) = ra at *
  generalize rowD N T i = rb at *
  simp -implicitDefEqProofs [m_range_of, fnF, b_range_of, N_range_of, startD, r1, r2, r3, r4]
noncomputable def rangeR (k : List Nat) (ps : List Pr) (i j : Nat) : D := if goodB k ps = true then .tup [.int (-allT k ps (j + 1) i), .int (allT k ps i (j + 1))] else .non
theorem number_spec {s : Sto} {k : List Nat} {ps : List Pr} {i j : Nat} (c : Case k ps) (hi : i ≤ k.length) (hj : j < k.length) : m_number_range [.str k, .tup (ps.map Pr.d), .int (i : Int), .int (j : Int)] s = .val (rangeR k ps i j) s := by
  have ha := all_spec (s := s) c
  unfold rangeR
  by_cases g : Good k ps
  · rw [boundsR_good g] at ha
    rw [if_pos (goodB_iff.mpr g)]
    have h := @isnt_tabD s (k.length + 1) (allT k ps)
    have hr := range_spec (s := s) (N := k.length + 1) (T := allT k ps) (i := i) (j := j) (by omega) (by omega)
    generalize tabD (k.length + 1) (allT k ps) = tb at ha h hr
    simp -implicitDefEqProofs [m_number_range, fnF, b_number_range, N_number_range, startD, ha, h, hr]
  · rw [boundsR_bad g] at ha
    rw [if_neg (fun z => g (goodB_iff.mp z))]
    simp -implicitDefEqProofs [m_number_range, fnF, b_number_range, N_number_range, startD, ha]
end Fl
set_option Elab.async false
set_option linter.all false
set_option maxRecDepth 100000
set_option maxHeartbeats 1000000
namespace Fl
open L2
noncomputable def stR (k : List Nat) (ps : List Pr) (d : Nat) : Nat := if -allT k ps (d + 1) d < allT k ps d (d + 1) then 63 else if -allT k ps (d + 1) d = 0 then 102 else 119
noncomputable def statesR (k : List Nat) (ps : List Pr) : List Nat := (List.range k.length).map (stR k ps)
theorem day_le {k : List Nat} {ps : List Pr} (c : Case k ps) (g : Good k ps) {d : Nat} (hd : d < k.length) : 0 ≤ -allT k ps (d + 1) d ∧ -allT k ps (d + 1) d ≤ allT k ps d (d + 1) ∧ allT k ps d (d + 1) ≤ 1 := by
  obtain ⟨r, f⟩ := (good_iff c).mp g
  have cl := g.closed c
  have h1 := cl.tri d (d + 1) d (by omega) (by omega) (by omega)
  have h2 := cl.dia d (by omega)
  refine ⟨?_, by omega, ?_⟩
  · obtain ⟨r, f, q⟩ := g.meet c (i := d) (j := d + 1) (v := -allT k ps (d + 1) d) (by omega) (by omega) (by omega) (by omega)
    have := pc_mono r (show d ≤ d + 1 by omega)
    omega
  · obtain ⟨r, f, q⟩ := g.meet c (i := d) (j := d + 1) (v := allT k ps d (d + 1)) (by omega) (by omega) (by omega) (by omega)
    have := pc_step r d
    omega
theorem chars_strsD : ∀ l : List Nat, strsD (l.map fun c => D.str [c]) = some (l.map fun c => [c])
  | [] => rfl
  | c :: l => by simp [strsD, chars_strsD l]
theorem chars_flat : ∀ l : List Nat, (l.map fun c => [c]).flatten = l
  | [] => rfl
  | c :: l => by simp [chars_flat l]
theorem join_own {s : Sto} {k : Nat} {l : List Nat} (h : s[k]? = some (.lst (l.map fun c => D.str [c]))) (hl : l.length ≤ 1000) : joinG s (.str []) [.ob k] = .val (.str l) s := by
  simp only [joinG, view_ob h (flats_map (fun _ => rfl) l), chars_strsD, chars_flat]
  rw [if_pos (by omega)]
theorem states_spec {s : Sto} {k : List Nat} {ps : List Pr} (c : Case k ps) : m_day_states [.str k, .tup (ps.map Pr.d)] s = .val (if goodB k ps = true then .str (statesR k ps) else .non) s := by
  have ha := all_spec (s := s) c
  have hkl := c.len
  by_cases g : Good k ps
  · rw [boundsR_good g] at ha
    rw [if_pos (goodB_iff.mpr g)]
    have hL : ∀ s, lenG s [.str k] = .val (.int k.length) s := fun s => lenG_str (by omega)
    have hget : ∀ o : SO, (s ++ [o])[s.length]? = some o := fun o => by rw [List.getElem?_append_right (Nat.le_refl _), Nat.sub_self]; rfl
    have hs2 : ∀ o o' : SO, (s ++ [o]).set s.length o' = s ++ [o'] := fun o o' => by rw [List.set_append_right _ _ (Nat.le_refl _), Nat.sub_self]; rfl
    have hr := fun (s : Sto) (d : Nat) (hd : d < k.length) => range_spec (s := s) (N := k.length + 1) (T := allT k ps) (i := d) (j := d) (by omega) (by omega)
    have hn := @is_tabD s (k.length + 1) (allT k ps)
    generalize tabD (k.length + 1) (allT k ps) = tb at ha hn hr
    obtain ⟨δ', s', e1, ⟨b4, b5, b6, rfl⟩, rfl⟩ := loop_inv (g := nameG 4) (body := l_day_states_1) (xs := upI 0 k.length)
      (fun i δ s' => (∃ b4 b5 b6, δ = [some (.str k), some (.tup (ps.map Pr.d)), some tb, some (.ob s.length), b4, b5, b6]) ∧ s' = s ++ [.lst (((List.range i).map (stR k ps)).map fun c => D.str [c])])
      (fun i x δ s' hx hI => by
        obtain ⟨⟨b4, b5, b6, rfl⟩, rfl⟩ := hI
        obtain ⟨rfl, hi⟩ := upI_get hx
        rw [Int.zero_add]
        obtain ⟨d0, d1, d2⟩ := day_le c g hi
        obtain ⟨q1, q2⟩ := app_at (d := .str [stR k ps i]) (hget (.lst (((List.range i).map (stR k ps)).map fun c => D.str [c]))) (by simp; omega)
        rw [hs2] at q2
        have e2 : (((List.range i).map (stR k ps)).map fun c => D.str [c]) ++ [.str [stR k ps i]] = ((List.range (i + 1)).map (stR k ps)).map fun c => D.str [c] := by rw [List.range_succ]; simp
        rw [e2] at q2
        have hri := fun s => hr s i hi
        refine ⟨_, _, ?_, ⟨some (.int (i : Int)), some (.int (-allT k ps (i + 1) i)), some (.int (allT k ps i (i + 1))), rfl⟩, rfl⟩
        generalize s ++ [SO.lst (((List.range i).map (stR k ps)).map fun c => D.str [c])] = S1 at q1 q2 ⊢
        generalize s ++ [SO.lst (((List.range (i + 1)).map (stR k ps)).map fun c => D.str [c])] = S2 at q2 ⊢
        have hix0 : ∀ s, ixG s (.str [102, 119]) (.int 0) = .val (.str [102]) s := fun s => ixG_str (by decide) atI_0
        have hix1 : ∀ s, ixG s (.str [102, 119]) (.int 1) = .val (.str [119]) s := fun s => ixG_str (by decide) atI_1
        unfold stR at q2
        by_cases h1 : -allT k ps (i + 1) i < allT k ps i (i + 1)
        · rw [if_pos h1] at q2
          simp -implicitDefEqProofs [turn, l_day_states_1, hri, h1, q1, q2]
        · rw [if_neg h1] at q2
          by_cases h2 : -allT k ps (i + 1) i = 0
          · rw [if_pos h2] at q2
            have h1a : ¬ (0 : Int) < allT k ps i (i + 1) := by omega
            simp -implicitDefEqProofs [turn, l_day_states_1, hri, h1a, h2, q1, q2, hix0]
          · rw [if_neg h2] at q2
            have h3 : -allT k ps (i + 1) i = 1 := by omega
            have h1b : ¬ (1 : Int) < allT k ps i (i + 1) := by omega
            simp -implicitDefEqProofs [turn, l_day_states_1, hri, h1b, h3, q1, q2, hix1])
      (δ := [some (.str k), some (.tup (ps.map Pr.d)), some tb, some (.ob s.length), none, none, none]) (s := s ++ [.lst []]) ⟨⟨_, _, _, rfl⟩, rfl⟩
    rw [upI_len] at e1
    have hj := join_own (hget (.lst ((statesR k ps).map fun c => D.str [c]))) (by simp [statesR]; omega)
    have e3 : ((List.range k.length).map (stR k ps)).map (fun c => D.str [c]) = (statesR k ps).map fun c => D.str [c] := rfl
    rw [e3] at e1
    simp -implicitDefEqProofs [m_day_states, fnF, b_day_states, N_day_states, startD, ha, hn, hL, sm_nat (show k.length ≤ 1000000 by omega), e1, isStr, hj]
  · rw [boundsR_bad g] at ha
    rw [if_neg (fun z => g (goodB_iff.mp z))]
    simp -implicitDefEqProofs [m_day_states, fnF, b_day_states, N_day_states, startD, ha]
end Fl
set_option Elab.async false
set_option linter.all false
set_option maxRecDepth 100000
set_option maxHeartbeats 1000000
namespace Fl
open L2
/-! general tools -/
theorem loopC_mapf {α : Type} {g : GF} {t : BF} {e : EF} {δ : Sl} {s : Sto} (f : α → D) (p : α → Bool) (v : α → D) : ∀ (ys : List α) (acc : List D), (∀ y ∈ ys, ∃ δ1, g (f y) δ s = .val δ1 s ∧ t δ1 s = .val (p y) s ∧ (p y = true → e δ1 s = .val (v y) s ∧ flat (v y) = true)) → acc.length + ys.length ≤ 16000000 →
    loopC g t e δ (ys.map f) acc s = .val (acc ++ (ys.filter p).map v) s
  | [], acc, _, _ => by simp
  | y :: ys, acc, h, hl => by
    obtain ⟨δ1, h1, h2, h3⟩ := h y (by simp)
    simp only [List.length_cons] at hl
    have ih := fun acc hl => loopC_mapf (s := s) (δ := δ) (g := g) (t := t) (e := e) f p v ys acc (fun z hz => h z (by simp [hz])) hl
    rw [List.map_cons, loopC_cons, h1]
    cases hb : p y with
    | true =>
      rw [hb] at h2
      obtain ⟨h4, h5⟩ := h3 hb
      simp -implicitDefEqProofs [h2, h4, h5, hb, show acc.length < 16000000 by omega, ih (acc ++ [v y]) (by simp; omega)]
    | false =>
      rw [hb] at h2
      simp -implicitDefEqProofs [h2, hb, ih acc (by omega)]
theorem loopC_map {α : Type} {g : GF} {e : EF} {δ : Sl} {s : Sto} (f : α → D) (v : α → D) (ys : List α) (h : ∀ y ∈ ys, ∃ δ1, g (f y) δ s = .val δ1 s ∧ e δ1 s = .val (v y) s ∧ flat (v y) = true) (hl : ys.length ≤ 16000000) :
    loopC g yes e δ (ys.map f) [] s = .val (ys.map v) s := by
  rw [loopC_mapf f (fun _ => true) v ys [] (fun y hy => by
    obtain ⟨δ1, h1, h2, h3⟩ := h y hy
    exact ⟨δ1, h1, rfl, fun _ => ⟨h2, h3⟩⟩) (by simpa using hl), List.nil_append, List.filter_eq_self.mpr (fun _ _ => rfl)]
/-- numbers in a list -/
def upL (P : Nat → Int) (n : Nat) : List D := (List.range n).map fun j => D.int (P j)
@[simp] theorem upL_len {P : Nat → Int} {n : Nat} : (upL P n).length = n := by simp [upL]
theorem upL_get {P : Nat → Int} {n j : Nat} (h : j < n) : (upL P n)[j]? = some (.int (P j)) := by
  unfold upL; rw [List.getElem?_map, List.getElem?_range h]; rfl
theorem upL_deps {P : Nat → Int} {n : Nat} : deps (upL P n) ≤ 0 := deps_le fun d hd => by
  obtain ⟨j, _, rfl⟩ := List.mem_map.mp hd; simp
theorem upL_okDs {P : Nat → Int} {n : Nat} : okDs (upL P n) = true := okDs_map (fun _ => rfl) _
theorem upL_congr {P Q : Nat → Int} {n : Nat} (h : ∀ j, j < n → P j = Q j) : upL P n = upL Q n := by
  unfold upL; exact List.map_congr_left fun j hj => by rw [h j (List.mem_range.mp hj)]
theorem upL_ix {s : Sto} {P : Nat → Int} {n j : Nat} {x : Int} (h : j < n) (hx : x = j) : ixG s (.lst (upL P n)) (.int x) = .val (.int (P j)) s := by
  rw [hx]; exact ixG_lst (atI_nat (upL_get h))
theorem atI_last {α : Type} {l : List α} {a : α} (h : l[l.length - 1]? = some a) : L2.atI l (-1) = some a := by
  have hl : 0 < l.length := by
    cases l with
    | nil => simp at h
    | cons b l => simp
  have : ixN l.length (-1) = some (l.length - 1) := by
    unfold ixN
    simp
    omega
  unfold L2.atI
  rw [this]; exact h
theorem upL_last {s : Sto} {P : Nat → Int} {n : Nat} (h : 0 < n) : ixG s (.lst (upL P n)) (.int (-1)) = .val (.int (P (n - 1))) s :=
  ixG_lst (atI_last (by rw [upL_len]; exact upL_get (by omega)))
theorem eq_self {s : Sto} {ds : List D} (h : okDs ds = true) (hd : deps ds ≤ 59) : eqG s (.lst ds) (.lst ds) = .val (.bl true) s := by
  rw [eqG_def, view_lst, if_pos (by rw [dep_lst]; omega), deq_lst, deqs_refl _ (okDs_plain _ h)]
theorem ne_self {s : Sto} {ds : List D} (h : okDs ds = true) (hd : deps ds ≤ 59) : neG s (.lst ds) (.lst ds) = .val (.bl false) s := by
  rw [neG_def, view_lst, if_pos (by rw [dep_lst]; omega), deq_lst, deqs_refl _ (okDs_plain _ h)]; rfl
theorem isIn_strs {r : List Nat} {rows : List (List Nat)} : isIn (.str r) (strsL rows) = decide (r ∈ rows) := by
  unfold isIn strsL
  rw [Bool.eq_iff_iff, List.any_eq_true, decide_eq_true_eq]
  constructor
  · rintro ⟨z, hz, h⟩
    obtain ⟨q, hq, rfl⟩ := List.mem_map.mp hz
    simp at h; exact h ▸ hq
  · intro h
    exact ⟨.str r, List.mem_map.mpr ⟨r, h, rfl⟩, by simp⟩
theorem nin_strs {s : Sto} {r : List Nat} {rows : List (List Nat)} : ninG s (.str r) (.lst (strsL rows)) = .val (.bl (!decide (r ∈ rows))) s := by
  have e : inB s (.str r) (.lst (strsL rows)) = some (decide (r ∈ rows)) := by
    have hc : dep (view s (.str r)) ≤ 60 ∧ deps (strsL rows) ≤ 59 := ⟨by simp, Nat.le_trans (strs_deps rows) (by decide)⟩
    show (if dep (view s (.str r)) ≤ 60 ∧ deps (strsL rows) ≤ 59 then some (isIn (view s (.str r)) (strsL rows)) else none) = _
    rw [if_pos hc, view_str, isIn_strs]
  unfold ninG; rw [e]
theorem intsD_map {α : Type} (f : α → Int) : ∀ xs : List α, intsD (xs.map fun x => D.int (f x)) = some (xs.map f)
  | [] => rfl
  | x :: xs => by simp [intsD, intsD_map f xs]
theorem min_spec {α : Type} {s : Sto} {f : α → Int} {xs : List α} {m : Int} (h1 : ∃ x ∈ xs, f x = m) (h2 : ∀ x ∈ xs, m ≤ f x) : minG s [.lst (xs.map fun x => D.int (f x))] = .val (.int m) s := by
  obtain ⟨x, hx, e⟩ := h1
  have hl : 0 < (xs.map f).length := by rw [List.length_map]; exact List.length_pos_of_mem hx
  have hm : m = minL (xs.map f) := min_at hl (List.mem_map.mpr ⟨x, hx, e⟩) (fun y hy => by
    obtain ⟨z, hz, rfl⟩ := List.mem_map.mp hy; exact h2 z hz)
  unfold minG
  simp only [view_lst, intsD_map, if_pos hl, ← hm]
theorem max_spec {α : Type} {s : Sto} {f : α → Int} {xs : List α} {m : Int} (h1 : ∃ x ∈ xs, f x = m) (h2 : ∀ x ∈ xs, f x ≤ m) : maxG s [.lst (xs.map fun x => D.int (f x))] = .val (.int m) s := by
  obtain ⟨x, hx, e⟩ := h1
  have hl : 0 < (xs.map f).length := by rw [List.length_map]; exact List.length_pos_of_mem hx
  have hm : m = maxL (xs.map f) := max_at hl (List.mem_map.mpr ⟨x, hx, e⟩) (fun y hy => by
    obtain ⟨z, hz, rfl⟩ := List.mem_map.mp hy; exact h2 z hz)
  unfold maxG
  simp only [view_lst, intsD_map, if_pos hl, ← hm]
/-- the promises that a row keeps -/
theorem keepG {s : Sto} {r : List Nat} {ps : List Pr} {δ : Sl} {i j : Nat} (hδ : i < δ.length) (hij : i ≠ j) (h3 : δ[j]? = some (some (.str r))) (hl : r.length ≤ 1000) (hr : Row r) (hp : ∀ p ∈ ps, (p.k = kOn ∨ p.k = kBy ∨ p.k = kFrom) ∧ p.s ≤ 1000) (hps : ps.length ≤ 1000) :
    loopC (nameG i) (tst (callF 2 m_law_keeps (con (varF j) (con (varF i) (nil))))) (varF i) δ (ps.map Pr.d) [] s = .val ((ps.filter (keepsP r)).map Pr.d) s := by
  rw [loopC_mapf Pr.d (keepsP r) Pr.d ps [] (fun p h => ?_) (by simp; omega)]
  · simp
  · obtain ⟨g1, g2⟩ := hp p h
    have hk := @law_keeps_spec r p s hl hr g1 g2
    have v3 : (δ.set i (some p.d))[j]? = some (some (.str r)) := by rw [List.getElem?_set_ne hij]; exact h3
    have v20 : (δ.set i (some p.d))[i]? = some (some p.d) := List.getElem?_set_self hδ
    exact ⟨_, rfl, by simp -implicitDefEqProofs [v3, v20, hk], fun _ => ⟨by simp [v20], rfl⟩⟩
theorem pc_take (r : List Nat) : ∀ j : Nat, j ≤ r.length → pc r j = (r.take j).count 119
  | 0, _ => by simp [pc]
  | j + 1, h => by
    rw [pc_succ, pc_take r j (by omega), List.take_succ]
    have hj : j < r.length := h
    rw [List.getElem?_eq_getElem hj, List.count_append]
    congr 1
    by_cases e : r[j] = 119
    · rw [if_pos (wk_iff.mpr (by rw [List.getElem?_eq_getElem hj, e]))]; simp [e]
    · rw [if_neg (fun z => by have := wk_iff.mp z; rw [List.getElem?_eq_getElem hj] at this; exact e (Option.some.inj this))]
      simp [List.count_singleton, e]
def upR (r : List Nat) : List D := upL (fun j => (pc r (j + 1) : Int)) r.length
theorem up_to_spec {s : Sto} {r : List Nat} (hl : r.length ≤ 1000) : m_law_up_to [.str r] s = .val (.lst (upR r)) s := by
  have comp : ∀ δ, loopC (nameG 1) yes (meB' isStr cntG (slF slG (varF 0) noP (parF (bin addG (varF 1) (cF (.int 1))))) (con (cF (.str [119])) (nil))) [some (.str r), δ] (upI 0 r.length) [] s = .val (upR r) s := fun δ => by
    unfold upI
    rw [loopC_map (fun (j : Nat) => D.int (0 + (j : Int))) (fun j => D.int (pc r (j + 1) : Int)) (List.range r.length) (fun j hj => ?_) (by simp; omega)]
    · rfl
    · have hj' := List.mem_range.mp hj
      refine ⟨_, rfl, ?_, rfl⟩
      have i1 : ∀ s, slG s (.str r) none (some ((j : Int) + 1)) = .val (.str (r.take (j + 1))) s := fun s => by
        simp only [slG, view_str, if_pos (show r.length ≤ 16000000 by omega)]
        rw [show ((j : Int) + 1) = ((j + 1 : Nat) : Int) by omega, cut_take (by omega)]
      have c1 : ∀ s, cntG s (.str (r.take (j + 1))) [.str [119]] = .val (.int (pc r (j + 1) : Nat)) s := fun s => by
        simp only [cntG]; rw [pc_take r (j + 1) (by omega)]
      simp -implicitDefEqProofs [i1, isStr, c1]
  have hL : ∀ s, lenG s [.str r] = .val (.int r.length) s := fun s => lenG_str (by omega)
  simp -implicitDefEqProofs [m_law_up_to, fnF, b_law_up_to, N_law_up_to, startD, wipeD, hL, sm_nat (show r.length ≤ 1000000 by omega), comp]
/-- what stands between the turns of a law -/
structure Inv (n : Nat) (δ : Sl) (s : Sto) : Prop where
  len : δ.length = n
  tp : δ[1]? = some (some (.ob 0))
  tap : Tap 0 s
theorem law_turns {N : List PySem.Str} {n m : Nat} {body ret : SF} (hN : N.length = n) (hn : 2 ≤ n) (hm : m ≤ 1000) (step : ∀ x δ s, Inv n δ s → ∃ δ2 s2, turn (nameG 2) body x δ s = .nx δ2 s2 ∧ Inv n δ2 s2) (hret : ∀ δ s, Inv n δ s → ∃ s', ret δ s = .rt (.bl true) s') (ns : List Int) :
    ∃ s, fnF N 1 (seqS (setS 1 (ownE (con (fnB listF (con (varF 0) (nil))) (con (cF (.int 0)) (con (cF (.int 0)) (nil)))))) (seqS (forS (rng1F (con (cF (.int (m : Int))) (nil))) (nameG 2) body) ret)) [.scr ns] [] = .val (.bl true) s := by
  have T0 : Tap 0 [Tp.o ⟨ns, 0, 0⟩] := ⟨⟨ns, 0, 0⟩, ⟨Int.le_refl _, Int.le_refl _⟩, rfl⟩
  obtain ⟨k, rfl⟩ : ∃ k, n = k + 2 := ⟨n - 2, by omega⟩
  have hst : startD N [.scr ns] = some (.scr ns) :: none :: List.replicate k none := by
    unfold startD
    rw [hN]
    show some (D.scr ns) :: List.replicate (k + 1) none = _
    rw [List.replicate_succ]
  obtain ⟨δ', s', e2, I⟩ := loop_inv (g := nameG 2) (body := body) (xs := upI 0 m) (fun _ δ s => Inv (k + 2) δ s) (fun i x δ s _ h => step x δ s h)
    (δ := some (.scr ns) :: some (.ob 0) :: List.replicate k none) (s := [Tp.o ⟨ns, 0, 0⟩]) ⟨by simp, rfl, T0⟩
  obtain ⟨s2, e3⟩ := hret δ' s' I
  unfold Tp.o at e2
  refine ⟨s2.take 0, ?_⟩
  simp -implicitDefEqProofs [fnF, hst, sm_nat (show m ≤ 1000000 by omega), e2, e3]
theorem inB_seq {s : Sto} {x y : D} {ds : List D} (h : view s y = .lst ds) (h1 : dep (view s x) ≤ 60) (h2 : deps ds ≤ 59) : inB s x y = some (isIn (view s x) ds) := by
  unfold inB; rw [h]; exact if_pos ⟨h1, h2⟩
theorem ninG_of {s : Sto} {x y : D} {b : Bool} (h : inB s x y = some b) : ninG s x y = .val (.bl (!b)) s := by unfold ninG; rw [h]
theorem inG_of {s : Sto} {x y : D} {b : Bool} (h : inB s x y = some b) : inG s x y = .val (.bl b) s := by unfold inG; rw [h]
theorem cut_cnt {r : List Nat} {f l : Nat} (h : f ≤ l) (hl : l ≤ r.length) : pc r f + (cutD r (some (f : Int)) (some (l : Int))).count 119 = pc r l := by
  unfold cutD
  rw [HT.sIx_nat, HT.sIx_nat, Nat.min_eq_left (show f ≤ r.length by omega), Nat.min_eq_left hl, pc_take r f (by omega), pc_take r l hl, ← List.count_append]
  congr 1
  rw [show l = f + (l - f) by omega, List.take_add, Nat.add_sub_cancel_left]
theorem rows_pow (k : List Nat) (ps : List Pr) : (rowsR k ps).length ≤ 2 ^ k.length := by
  unfold rowsR
  refine Nat.le_trans (List.length_filter_le _ _) ?_
  have := allR_len k k.length
  rwa [List.take_length] at this
theorem Fits.btw {k : List Nat} {ps : List Pr} (c : Case k ps) {r : List Nat} (f : Fits k ps r) {i j : Nat} (hi : i ≤ k.length) (hj : j ≤ k.length) : -allT k ps j i ≤ (pc r j : Int) - pc r i ∧ (pc r j : Int) - pc r i ≤ allT k ps i j := by
  have s := f.sat c
  have h1 := s i j (by omega) (by omega)
  have h2 := s j i (by omega) (by omega)
  unfold Pn at h1 h2
  omega
theorem range_ok {k : List Nat} {ps : List Pr} (g : Good k ps) (i j : Nat) : rangeR k ps i j = .tup [.int (-allT k ps (j + 1) i), .int (allT k ps i (j + 1))] := by unfold rangeR; rw [if_pos (goodB_iff.mpr g)]
theorem goodB_false {k : List Nat} {ps : List Pr} (g : ¬ Good k ps) : goodB k ps = false := by rw [Bool.eq_false_iff]; exact fun z => g (goodB_iff.mp z)
theorem rows_none {k : List Nat} {ps : List Pr} (c : Case k ps) (g : ¬ Good k ps) : rowsR k ps = [] := by
  rw [List.eq_nil_iff_forall_not_mem]
  intro r hr
  exact g (((rows_mem c.kn r).mp hr).good c)
theorem srtI_range {ns : List Int} {lo : Int} {n : Nat} (h : ∀ v, v ∈ ns ↔ lo ≤ v ∧ v < lo + n) : srtI ns = (List.range n).map fun (i : Nat) => lo + (i : Int) := by
  refine srtI_eq ?_ fun v => ?_
  · rw [List.pairwise_map]
    exact List.pairwise_lt_range.imp fun {a b} z => by omega
  · rw [h, List.mem_map]
    constructor
    · rintro ⟨i, hi, rfl⟩
      have := List.mem_range.mp hi
      omega
    · rintro ⟨h1, h2⟩
      refine ⟨(v - lo).toNat, List.mem_range.mpr ?_, ?_⟩ <;> omega
theorem ss_ints {α : Type} {fa : EF} {δ : Sl} {s s1 : Sto} {f : α → Int} {xs : List α} {zs : List Int} (h : fa δ s = .val (.lst (xs.map fun x => D.int (f x))) s1) (hl : xs.length ≤ 4000) (hz : srtI (xs.map f) = zs) : ssF fa δ s = .val (.lst (zs.map D.int)) s1 := by
  unfold ssF
  rw [h, O.bind_val]
  simp only [view_lst, intsD_map]
  rw [if_pos (few_len (by rw [List.length_map]; exact hl)), hz]
end Fl
set_option Elab.async false
set_option linter.all false
set_option maxRecDepth 100000
set_option maxHeartbeats 1000000
namespace Fl
open L2
/-! arbitrary values: rows, known days, promises -/
/-- data of bounded size: b items, m deep -/
def gd (b : Nat) : Nat → D → Bool
  | _, .non => true
  | _, .bl _ => true
  | _, .int _ => true
  | _, .str cs => decide (cs.length ≤ b)
  | m + 1, .tup ds => decide (ds.length ≤ b) && ds.all (gd b m)
  | m + 1, .lst ds => decide (ds.length ≤ b) && ds.all (gd b m)
  | _, _ => false
theorem gd_flat {b m : Nat} {d : D} (h : gd b m d = true) : flat d = true := by
  cases d <;> first | rfl | (cases m <;> simp [gd] at h)
theorem gd_mono {b b' : Nat} (hb : b ≤ b') : ∀ {m m' : Nat} {d : D}, m ≤ m' → gd b m d = true → gd b' m' d = true
  | m, m', .non, _, _ => by unfold gd; cases m' <;> rfl
  | m, m', .bl _, _, _ => by unfold gd; cases m' <;> rfl
  | m, m', .int _, _, _ => by unfold gd; cases m' <;> rfl
  | m, m', .str cs, _, h => by
    have h1 : cs.length ≤ b := by cases m <;> simpa [gd] using h
    cases m' <;> (simp [gd]; omega)
  | 0, m', .tup ds, _, h => by simp [gd] at h
  | 0, m', .lst ds, _, h => by simp [gd] at h
  | m + 1, m', .tup ds, hm, h => by
    obtain ⟨k, rfl⟩ : ∃ k, m' = k + 1 := ⟨m' - 1, by omega⟩
    simp only [gd, Bool.and_eq_true, decide_eq_true_eq, List.all_eq_true] at h ⊢
    exact ⟨by omega, fun x hx => gd_mono hb (by omega) (h.2 x hx)⟩
  | m + 1, m', .lst ds, hm, h => by
    obtain ⟨k, rfl⟩ : ∃ k, m' = k + 1 := ⟨m' - 1, by omega⟩
    simp only [gd, Bool.and_eq_true, decide_eq_true_eq, List.all_eq_true] at h ⊢
    exact ⟨by omega, fun x hx => gd_mono hb (by omega) (h.2 x hx)⟩
  | m, m', .ty _, _, h => by cases m <;> simp [gd] at h
  | m, m', .ob _, _, h => by cases m <;> simp [gd] at h
  | m, m', .scr _, _, h => by cases m <;> simp [gd] at h
theorem gd_tup {b m : Nat} {ds : List D} : gd b (m + 1) (.tup ds) = true ↔ ds.length ≤ b ∧ ∀ d ∈ ds, gd b m d = true := by simp [gd]
theorem gd_lst {b m : Nat} {ds : List D} : gd b (m + 1) (.lst ds) = true ↔ ds.length ≤ b ∧ ∀ d ∈ ds, gd b m d = true := by simp [gd]
theorem gd_str {b m : Nat} {cs : List Nat} : gd b m (.str cs) = true ↔ cs.length ≤ b := by cases m <;> simp [gd]
theorem gd_dep {b : Nat} : ∀ {m : Nat} {d : D}, gd b m d = true → dep d ≤ m
  | m, .non, _ => by simp
  | m, .bl _, _ => by simp
  | m, .int _, _ => by simp
  | m, .str _, _ => by simp
  | 0, .tup ds, h => by simp [gd] at h
  | 0, .lst ds, h => by simp [gd] at h
  | m + 1, .tup ds, h => by
    have := deps_le (n := m) (ds := ds) fun d hd => gd_dep ((gd_tup.mp h).2 d hd)
    simp; omega
  | m + 1, .lst ds, h => by
    have := deps_le (n := m) (ds := ds) fun d hd => gd_dep ((gd_lst.mp h).2 d hd)
    simp; omega
  | m, .ty _, h => by cases m <;> simp [gd] at h
  | m, .ob _, h => by cases m <;> simp [gd] at h
  | m, .scr _, h => by cases m <;> simp [gd] at h
/-- the kinds of data -/
theorem gd_cases {b m : Nat} {d : D} (h : gd b m d = true) : d = .non ∨ (∃ x, d = .bl x) ∨ (∃ i, d = .int i) ∨ (∃ cs, d = .str cs ∧ cs.length ≤ b) ∨ (∃ ds k, d = .tup ds ∧ m = k + 1 ∧ ds.length ≤ b ∧ ∀ x ∈ ds, gd b k x = true) ∨ ∃ ds k, d = .lst ds ∧ m = k + 1 ∧ ds.length ≤ b ∧ ∀ x ∈ ds, gd b k x = true := by
  cases d with
  | non => exact .inl rfl
  | bl x => exact .inr (.inl ⟨x, rfl⟩)
  | int i => exact .inr (.inr (.inl ⟨i, rfl⟩))
  | str cs => exact .inr (.inr (.inr (.inl ⟨cs, rfl, gd_str.mp h⟩)))
  | tup ds =>
    cases m with
    | zero => simp [gd] at h
    | succ k => exact .inr (.inr (.inr (.inr (.inl ⟨ds, k, rfl, rfl, gd_tup.mp h⟩))))
  | lst ds =>
    cases m with
    | zero => simp [gd] at h
    | succ k => exact .inr (.inr (.inr (.inr (.inr ⟨ds, k, rfl, rfl, gd_lst.mp h⟩))))
  | ty x => cases m <;> simp [gd] at h
  | ob x => cases m <;> simp [gd] at h
  | scr x => cases m <;> simp [gd] at h
def lettersB (z : List Nat) : D → Bool
  | .str cs => decide (1 ≤ cs.length) && decide (cs.length ≤ 31) && cs.all fun c => decide (c ∈ z)
  | _ => false
theorem ninG_ch {s : Sto} {c : Nat} {z : List Nat} : ninG s (.str [c]) (.str z) = .val (.bl (!decide (c ∈ z))) s := rfl
theorem inG_ch {s : Sto} {c : Nat} {z : List Nat} : inG s (.str [c]) (.str z) = .val (.bl (decide (c ∈ z))) s := rfl
theorem blsD_map {α : Type} (f : α → Bool) : ∀ xs : List α, blsD (xs.map fun x => D.bl (f x)) = some (xs.map f)
  | [] => rfl
  | x :: xs => by simp [blsD, blsD_map f xs]
theorem allG_map {α : Type} {s : Sto} (f : α → Bool) (xs : List α) : allG s [.lst (xs.map fun x => D.bl (f x))] = .val (.bl (xs.all f)) s := by
  simp only [allG, view_lst, blsD_map]
  congr 2
  rw [List.all_map]; rfl
theorem letters_comp {s : Sto} {cs z : List Nat} {x : Option D} (hl : cs.length ≤ 1000) : loopC (nameG 2) yes (bin inG (varF 2) (varF 1)) [x, some (.str z), none] (cs.map fun c => D.str [c]) [] s = .val (cs.map fun c => .bl (decide (c ∈ z))) s :=
  loopC_map (fun c => D.str [c]) (fun c => D.bl (decide (c ∈ z))) cs (fun c hc => ⟨_, rfl, by simp -implicitDefEqProofs [inG_ch], rfl⟩) (by omega)
theorem are_letters_spec {s : Sto} {b m : Nat} {d : D} {z : List Nat} (h : gd b m d = true) (hb : b ≤ 1000) : m_are_letters [d, .str z] s = .val (.bl (lettersB z d)) s := by
  rcases gd_cases h with rfl | ⟨x, rfl⟩ | ⟨i, rfl⟩ | ⟨cs, rfl, hl⟩ | ⟨ds, k, rfl, rfl, hl, hd⟩ | ⟨ds, k, rfl, rfl, hl, hd⟩
  · simp -implicitDefEqProofs [m_are_letters, fnF, b_are_letters, N_are_letters, startD, isT, tyD, lettersB]
  · simp -implicitDefEqProofs [m_are_letters, fnF, b_are_letters, N_are_letters, startD, isT, tyD, lettersB]
  · simp -implicitDefEqProofs [m_are_letters, fnF, b_are_letters, N_are_letters, startD, isT, tyD, lettersB]
  · have hL : ∀ s, lenG s [.str cs] = .val (.int cs.length) s := fun s => lenG_str (by omega)
    have comp := fun s x => @letters_comp s cs z x (by omega)
    have al := fun s => @allG_map Nat s (fun c => decide (c ∈ z)) cs
    by_cases h1 : 1 ≤ cs.length
    · by_cases h2 : cs.length ≤ 31
      · have h1' : (1 : Int) ≤ (cs.length : Int) := by omega
        have h2' : (cs.length : Int) ≤ 31 := by omega
        simp -implicitDefEqProofs [m_are_letters, fnF, b_are_letters, N_are_letters, startD, isT, tyD, lettersB, hL, h1, h2, h1', h2', wipeD, comp, al]
      · have h1' : (1 : Int) ≤ (cs.length : Int) := by omega
        have h2' : ¬ (cs.length : Int) ≤ 31 := by omega
        simp -implicitDefEqProofs [m_are_letters, fnF, b_are_letters, N_are_letters, startD, isT, tyD, lettersB, hL, h1, h2, h1', h2']
    · have h1' : ¬ (1 : Int) ≤ (cs.length : Int) := by omega
      simp -implicitDefEqProofs [m_are_letters, fnF, b_are_letters, N_are_letters, startD, isT, tyD, lettersB, hL, h1, h1']
  · simp -implicitDefEqProofs [m_are_letters, fnF, b_are_letters, N_are_letters, startD, isT, tyD, lettersB]
  · simp -implicitDefEqProofs [m_are_letters, fnF, b_are_letters, N_are_letters, startD, isT, tyD, lettersB]
theorem is_row_spec {s : Sto} {b m : Nat} {d : D} (h : gd b m d = true) (hb : b ≤ 1000) : m_is_row [d] s = .val (.bl (lettersB [119, 102] d)) s := by
  have e := are_letters_spec (s := s) (z := [119, 102]) h hb
  simp -implicitDefEqProofs [m_is_row, fnF, b_is_row, N_is_row, startD, e]
theorem is_known_spec {s : Sto} {b m : Nat} {d : D} (h : gd b m d = true) (hb : b ≤ 1000) : m_is_known [d] s = .val (.bl (lettersB [119, 102, 63] d)) s := by
  have e := are_letters_spec (s := s) (z := [119, 102, 63]) h hb
  simp -implicitDefEqProofs [m_is_known, fnF, b_is_known, N_is_known, startD, e]
def intB (d : D) (lo hi : Int) : Bool := match d with
  | .int i => decide (lo ≤ i) && decide (i ≤ hi)
  | _ => false
theorem is_integer_spec {s : Sto} {b m : Nat} {d : D} {lo hi : Int} (h : gd b m d = true) : m_is_integer [d, .int lo, .int hi] s = .val (.bl (intB d lo hi)) s := by
  rcases gd_cases h with rfl | ⟨x, rfl⟩ | ⟨i, rfl⟩ | ⟨cs, rfl, hl⟩ | ⟨ds, k, rfl, rfl, hl, hd⟩ | ⟨ds, k, rfl, rfl, hl, hd⟩
  · simp -implicitDefEqProofs [m_is_integer, fnF, b_is_integer, N_is_integer, startD, isT, tyD, intB]
  · simp -implicitDefEqProofs [m_is_integer, fnF, b_is_integer, N_is_integer, startD, isT, tyD, intB]
  · by_cases h1 : lo ≤ i
    · simp -implicitDefEqProofs [m_is_integer, fnF, b_is_integer, N_is_integer, startD, isT, tyD, intB, h1]
    · simp -implicitDefEqProofs [m_is_integer, fnF, b_is_integer, N_is_integer, startD, isT, tyD, intB, h1]
  · simp -implicitDefEqProofs [m_is_integer, fnF, b_is_integer, N_is_integer, startD, isT, tyD, intB]
  · simp -implicitDefEqProofs [m_is_integer, fnF, b_is_integer, N_is_integer, startD, isT, tyD, intB]
  · simp -implicitDefEqProofs [m_is_integer, fnF, b_is_integer, N_is_integer, startD, isT, tyD, intB]
def kindB (k : List Nat) : Bool := k == kOn || k == kBy || k == kFrom
theorem kinds_nin {s : Sto} {k : List Nat} : ninG s (.str k) (.tup [.str [111, 110], .str [98, 121], .str [102, 114, 111, 109]]) = .val (.bl (!kindB k)) s := by
  have e : ∀ z : List Nat, (z == k) = (k == z) := fun z => by rw [Bool.eq_iff_iff]; simp; exact eq_comm
  simp [ninG, inB, atomD, isIn, kindB, kOn, kBy, kFrom, e, Bool.or_assoc]
def promB (n : Int) : D → Bool
  | .tup [.str k, .int st, c, e] => kindB k && (decide (-1 ≤ st) && decide (st ≤ n - 2)) && intB c 1 n && intB e (st + 1) (n - 1)
  | _ => false
theorem promB_eq {n st : Int} {k : List Nat} {c e : D} : promB n (.tup [.str k, .int st, c, e]) = (kindB k && (decide (-1 ≤ st) && decide (st ≤ n - 2)) && intB c 1 n && intB e (st + 1) (n - 1)) := rfl
theorem promB_len {n : Int} {ds : List D} (h : ds.length ≠ 4) : promB n (.tup ds) = false := by
  unfold promB
  split
  · rename_i e
    injection e with e
    subst e
    exact absurd rfl h
  · rfl
theorem is_promise_spec {s : Sto} {b m : Nat} {d : D} {kn : List Nat} (h : gd b m d = true) (hk : kn.length ≤ 1000) : m_is_promise [.str kn, d] s = .val (.bl (promB (kn.length : Int) d)) s := by
  have hL : ∀ s, lenG s [.str kn] = .val (.int kn.length) s := fun s => lenG_str (by omega)
  rcases gd_cases h with rfl | ⟨x, rfl⟩ | ⟨i, rfl⟩ | ⟨cs, rfl, hl⟩ | ⟨ds, k, rfl, rfl, hl, hd⟩ | ⟨ds, k, rfl, rfl, hl, hd⟩
  · simp -implicitDefEqProofs [m_is_promise, fnF, b_is_promise, N_is_promise, startD, isT, tyD, promB]
  · simp -implicitDefEqProofs [m_is_promise, fnF, b_is_promise, N_is_promise, startD, isT, tyD, promB]
  · simp -implicitDefEqProofs [m_is_promise, fnF, b_is_promise, N_is_promise, startD, isT, tyD, promB]
  · simp -implicitDefEqProofs [m_is_promise, fnF, b_is_promise, N_is_promise, startD, isT, tyD, promB]
  · by_cases h4 : ds.length = 4
    · obtain ⟨x0, x1, x2, x3, rfl⟩ : ∃ x0 x1 x2 x3, ds = [x0, x1, x2, x3] := by
        match ds, h4 with
        | [x0, x1, x2, x3], _ => exact ⟨_, _, _, _, rfl⟩
      have g0 := hd x0 (by simp)
      have i1 := fun s lo hi => is_integer_spec (s := s) (lo := lo) (hi := hi) (hd x1 (by simp))
      have i2 := fun s lo hi => is_integer_spec (s := s) (lo := lo) (hi := hi) (hd x2 (by simp))
      have i3 := fun s lo hi => is_integer_spec (s := s) (lo := lo) (hi := hi) (hd x3 (by simp))
      rcases gd_cases g0 with rfl | ⟨x, rfl⟩ | ⟨i, rfl⟩ | ⟨cs, rfl, hl⟩ | ⟨es, k2, rfl, rfl, hl, hd'⟩ | ⟨es, k2, rfl, rfl, hl, hd'⟩
      · simp -implicitDefEqProofs [m_is_promise, fnF, b_is_promise, N_is_promise, startD, isT, tyD, promB]
      · simp -implicitDefEqProofs [m_is_promise, fnF, b_is_promise, N_is_promise, startD, isT, tyD, promB]
      · simp -implicitDefEqProofs [m_is_promise, fnF, b_is_promise, N_is_promise, startD, isT, tyD, promB]
      · cases hkb : kindB cs with
        | false =>
          have hp : promB (kn.length : Int) (.tup [.str cs, x1, x2, x3]) = false := by
            unfold promB
            split
            · rename_i e; injection e with e; injection e with e1 e2; injection e1 with e1; subst e1; rw [hkb]; rfl
            · rfl
          simp -implicitDefEqProofs [m_is_promise, fnF, b_is_promise, N_is_promise, startD, isT, tyD, kinds_nin, hkb, hp]
        | true =>
          cases x1 with
          | int st =>
            cases hb1 : intB (.int st) (-1) ((kn.length : Int) - 2) with
            | false =>
              have hp : promB (kn.length : Int) (.tup [.str cs, .int st, x2, x3]) = false := by
                unfold promB intB at *
                simp only at hb1 ⊢
                rw [hb1]; simp
              simp -implicitDefEqProofs [m_is_promise, fnF, b_is_promise, N_is_promise, startD, isT, tyD, kinds_nin, hkb, hL, i1, hb1, hp]
            | true =>
              cases hb2 : intB x2 1 (kn.length : Int) with
              | false =>
                have hp : promB (kn.length : Int) (.tup [.str cs, .int st, x2, x3]) = false := by
                  rw [promB_eq, hb2]; simp
                simp -implicitDefEqProofs [m_is_promise, fnF, b_is_promise, N_is_promise, startD, isT, tyD, kinds_nin, hkb, hL, i1, hb1, i2, hb2, hp]
              | true =>
                have hp : promB (kn.length : Int) (.tup [.str cs, .int st, x2, x3]) = intB x3 (st + 1) ((kn.length : Int) - 1) := by
                  rw [promB_eq]
                  have hb1' : (decide (-1 ≤ st) && decide (st ≤ (kn.length : Int) - 2)) = true := hb1
                  rw [hb2, hkb, hb1']; simp
                simp -implicitDefEqProofs [m_is_promise, fnF, b_is_promise, N_is_promise, startD, isT, tyD, kinds_nin, hkb, hL, i1, hb1, i2, hb2, i3, hp]
          | _ =>
            simp -implicitDefEqProofs [m_is_promise, fnF, b_is_promise, N_is_promise, startD, isT, tyD, kinds_nin, hkb, hL, i1, promB, intB]
      · simp -implicitDefEqProofs [m_is_promise, fnF, b_is_promise, N_is_promise, startD, isT, tyD, promB]
      · simp -implicitDefEqProofs [m_is_promise, fnF, b_is_promise, N_is_promise, startD, isT, tyD, promB]
    · have hp := promB_len (n := (kn.length : Int)) h4
      have h4' : ((ds.length : Int) == 4) = false := by simp; omega
      simp -implicitDefEqProofs [m_is_promise, fnF, b_is_promise, N_is_promise, startD, isT, tyD, h4', hp]
  · simp -implicitDefEqProofs [m_is_promise, fnF, b_is_promise, N_is_promise, startD, isT, tyD, promB]
def promsB (n : Int) : D → Bool
  | .tup ds => decide (ds.length ≤ 6) && ds.all (promB n)
  | _ => false
theorem are_promises_spec {s : Sto} {b m : Nat} {d : D} {kn : List Nat} (h : gd b m d = true) (hk : kn.length ≤ 1000) (hb : b ≤ 1000000) : m_are_promises [.str kn, d] s = .val (.bl (promsB (kn.length : Int) d)) s := by
  rcases gd_cases h with rfl | ⟨x, rfl⟩ | ⟨i, rfl⟩ | ⟨cs, rfl, hl⟩ | ⟨ds, k, rfl, rfl, hl, hd⟩ | ⟨ds, k, rfl, rfl, hl, hd⟩
  · simp -implicitDefEqProofs [m_are_promises, fnF, b_are_promises, N_are_promises, startD, isT, tyD, promsB]
  · simp -implicitDefEqProofs [m_are_promises, fnF, b_are_promises, N_are_promises, startD, isT, tyD, promsB]
  · simp -implicitDefEqProofs [m_are_promises, fnF, b_are_promises, N_are_promises, startD, isT, tyD, promsB]
  · simp -implicitDefEqProofs [m_are_promises, fnF, b_are_promises, N_are_promises, startD, isT, tyD, promsB]
  · have comp : ∀ (x y : Option D) (s : Sto), loopC (nameG 2) yes (callF 2 m_is_promise (con (varF 0) (con (varF 2) (nil)))) [some (.str kn), x, y] ds [] s = .val (ds.map fun d => .bl (promB (kn.length : Int) d)) s := fun x y s => by
      have := loopC_map (g := nameG 2) (e := callF 2 m_is_promise (con (varF 0) (con (varF 2) (nil)))) (δ := [some (.str kn), x, y]) (s := s) (fun d : D => d) (fun d => D.bl (promB (kn.length : Int) d)) ds (fun d hd' => ⟨_, rfl, by
        have e := fun s => is_promise_spec (s := s) (hd d hd') hk
        simp -implicitDefEqProofs [e], rfl⟩) (by omega)
      rwa [List.map_id'] at this
    have al := fun s => @allG_map D s (promB (kn.length : Int)) ds
    by_cases h6 : ds.length ≤ 6
    · have h6' : ¬ (6 : Int) < (ds.length : Int) := by omega
      simp -implicitDefEqProofs [m_are_promises, fnF, b_are_promises, N_are_promises, startD, isT, tyD, promsB, h6, h6', wipeD, comp, al]
    · have h6' : (6 : Int) < (ds.length : Int) := by omega
      simp -implicitDefEqProofs [m_are_promises, fnF, b_are_promises, N_are_promises, startD, isT, tyD, promsB, h6, h6']
  · simp -implicitDefEqProofs [m_are_promises, fnF, b_are_promises, N_are_promises, startD, isT, tyD, promsB]
end Fl
set_option Elab.async false
set_option linter.all false
set_option maxRecDepth 100000
set_option maxHeartbeats 1000000
namespace Fl
namespace U
open L2 PySem
/-! the states of days -/
theorem fitsAt {k : List Nat} {ps : List Pr} {r : List Nat} (f : Fits k ps r) {d : Nat} (hd : d < k.length) : (r[d]? = some 119 ∧ pc r (d + 1) = pc r d + 1) ∨ (r[d]? = some 102 ∧ pc r (d + 1) = pc r d) := by
  obtain ⟨ch, hc, _⟩ := row_at f.row (show d < r.length by rw [f.len]; exact hd)
  have hs := pc_succ r d
  rcases f.row ch (List.mem_of_getElem? hc) with e | e
  · subst e
    rw [if_pos (wk_iff.mpr hc)] at hs
    exact .inl ⟨hc, hs⟩
  · subst e
    rw [if_neg (fun z => by have := wk_iff.mp z; rw [hc] at this; cases this)] at hs
    exact .inr ⟨hc, hs⟩
theorem day_meet {k : List Nat} {ps : List Pr} (c : Case k ps) (g : Good k ps) {d : Nat} (hd : d < k.length) {v : Int} (h1 : -allT k ps (d + 1) d ≤ v) (h2 : v ≤ allT k ps d (d + 1)) : ∃ r, Fits k ps r ∧ (pc r (d + 1) : Int) - pc r d = v := g.meet c (by omega) (by omega) h1 h2
theorem stR_both {k : List Nat} {ps : List Pr} (c : Case k ps) (g : Good k ps) {d : Nat} (hd : d < k.length) : stR k ps d = 63 ↔ (∃ r, Fits k ps r ∧ r[d]? = some 119) ∧ ∃ r, Fits k ps r ∧ r[d]? = some 102 := by
  obtain ⟨d0, d1, d2⟩ := day_le c g hd
  constructor
  · intro h
    have hlt : -allT k ps (d + 1) d < allT k ps d (d + 1) := by
      unfold stR at h
      split at h
      · assumption
      · split at h <;> cases h
    obtain ⟨r1, f1, e1⟩ := day_meet c g hd (v := 1) (by omega) (by omega)
    obtain ⟨r2, f2, e2⟩ := day_meet c g hd (v := 0) (by omega) (by omega)
    refine ⟨⟨r1, f1, ?_⟩, ⟨r2, f2, ?_⟩⟩
    · rcases fitsAt f1 hd with ⟨a, b⟩ | ⟨a, b⟩
      · exact a
      · omega
    · rcases fitsAt f2 hd with ⟨a, b⟩ | ⟨a, b⟩
      · omega
      · exact a
  · rintro ⟨⟨r1, f1, e1⟩, ⟨r2, f2, e2⟩⟩
    have b1 := f1.btw c (i := d) (j := d + 1) (by omega) (by omega)
    have b2 := f2.btw c (i := d) (j := d + 1) (by omega) (by omega)
    unfold stR
    rw [if_pos]
    rcases fitsAt f1 hd with ⟨a, b⟩ | ⟨a, b⟩
    · rcases fitsAt f2 hd with ⟨a', b'⟩ | ⟨a', b'⟩
      · rw [e2] at a'; cases a'
      · omega
    · rw [e1] at a; cases a
theorem stR_one {k : List Nat} {ps : List Pr} (c : Case k ps) (g : Good k ps) {d : Nat} (hd : d < k.length) (h : stR k ps d ≠ 63) : (stR k ps d = 119 ∨ stR k ps d = 102) ∧ ∀ r, Fits k ps r → r[d]? = some (stR k ps d) := by
  obtain ⟨d0, d1, d2⟩ := day_le c g hd
  unfold stR at h ⊢
  by_cases h1 : -allT k ps (d + 1) d < allT k ps d (d + 1)
  · rw [if_pos h1] at h; exact absurd rfl h
  · rw [if_neg h1]
    constructor
    · split
      · exact .inr rfl
      · exact .inl rfl
    · intro r f
      have b := f.btw c (i := d) (j := d + 1) (by omega) (by omega)
      rcases fitsAt f hd with ⟨a, e⟩ | ⟨a, e⟩
      · rw [if_neg (by omega), a]
      · rw [if_pos (by omega), a]
theorem states_len (k : List Nat) (ps : List Pr) : (statesR k ps).length = k.length := by simp [statesR]
theorem states_at {k : List Nat} {ps : List Pr} {d : Nat} (hd : d < k.length) : (statesR k ps)[d]? = some (stR k ps d) := by
  unfold statesR; rw [List.getElem?_map, List.getElem?_range hd]; rfl
theorem st_eq {k k' : List Nat} {ps ps' : List Pr} (c : Case k ps) (g : Good k ps) (c' : Case k' ps') (g' : Good k' ps') {r0 : List Nat} (f0 : Fits k ps r0) (hl : k.length = k'.length) (h : ∀ r, Fits k ps r ↔ Fits k' ps' r) {d : Nat} (hd : d < k.length) : stR k ps d = stR k' ps' d := by
  by_cases q : stR k ps d = 63
  · obtain ⟨⟨r1, f1, e1⟩, ⟨r2, f2, e2⟩⟩ := (stR_both c g hd).mp q
    rw [q, (stR_both c' g' (by omega)).mpr ⟨⟨r1, (h r1).mp f1, e1⟩, ⟨r2, (h r2).mp f2, e2⟩⟩]
  · have q' : stR k' ps' d ≠ 63 := fun z => by
      obtain ⟨⟨r1, f1, e1⟩, ⟨r2, f2, e2⟩⟩ := (stR_both c' g' (by omega)).mp z
      exact q ((stR_both c g hd).mpr ⟨⟨r1, (h r1).mpr f1, e1⟩, ⟨r2, (h r2).mpr f2, e2⟩⟩)
    have e1 := (stR_one c g hd q).2 r0 f0
    have e2 := (stR_one c' g' (by omega) q').2 r0 ((h r0).mp f0)
    rw [e1] at e2
    exact Option.some.inj e2
theorem nil_case {k : List Nat} {ps : List Pr} (c : Case k ps) : Case k [] := ⟨c.kn, c.len, fun p hp => (nomatch hp)⟩
theorem good_nil {k : List Nat} (c : Case k []) : Good k [] := (good_iff c).mpr ⟨k.map fun x => if x = 63 then 102 else x, ⟨fun x hx => by
    obtain ⟨y, hy, rfl⟩ := List.mem_map.mp hx
    rcases c.kn y hy with e | e | e <;> subst e <;> simp, by simp, fun d hd => by
    rw [List.getElem?_map, List.getElem?_eq_getElem hd]
    by_cases h : k[d] = 63
    · exact .inl (by rw [h])
    · exact .inr (by simp [h]), fun p hp => (nomatch hp)⟩⟩
theorem row_for {k : List Nat} (c : Case k []) (v : Nat) (hv : v = 119 ∨ v = 102) : Fits k [] (k.map fun x => if x = 63 then v else x) := ⟨fun x hx => by
    obtain ⟨y, hy, rfl⟩ := List.mem_map.mp hx
    rcases c.kn y hy with e | e | e <;> subst e <;> simp
    exact hv, by simp, fun d hd => by
    rw [List.getElem?_map, List.getElem?_eq_getElem hd]
    by_cases h : k[d] = 63
    · exact .inl (by rw [h])
    · exact .inr (by simp [h]), fun p hp => (nomatch hp)⟩
/-- without promises the states are the known days -/
theorem states_nil {k : List Nat} (c : Case k []) : statesR k [] = k := by
  have g := good_nil c
  apply List.ext_getElem?
  intro d
  by_cases hd : d < k.length
  · rw [states_at hd, List.getElem?_eq_getElem hd]
    congr 1
    have w := row_for c 119 (.inl rfl)
    have f := row_for c 102 (.inr rfl)
    have ew : (k.map fun x => if x = 63 then 119 else x)[d]? = some (if k[d] = 63 then 119 else k[d]) := by rw [List.getElem?_map, List.getElem?_eq_getElem hd]; rfl
    have ef : (k.map fun x => if x = 63 then 102 else x)[d]? = some (if k[d] = 63 then 102 else k[d]) := by rw [List.getElem?_map, List.getElem?_eq_getElem hd]; rfl
    by_cases h : k[d] = 63
    · rw [if_pos h] at ew ef
      rw [h]
      exact (stR_both c g hd).mpr ⟨⟨_, w, ew⟩, ⟨_, f, ef⟩⟩
    · rw [if_neg h] at ew ef
      have q : stR k [] d ≠ 63 := fun z => by
        obtain ⟨⟨r1, f1, e1⟩, ⟨r2, f2, e2⟩⟩ := (stR_both c g hd).mp z
        rcases f1.day d hd with a | a
        · rw [List.getElem?_eq_getElem hd] at a; exact h (Option.some.inj a)
        · rcases f2.day d hd with b | b
          · rw [List.getElem?_eq_getElem hd] at b; exact h (Option.some.inj b)
          · rw [e1] at a; rw [e2, a] at b; cases b
      have := (stR_one c g hd q).2 _ w
      rw [ew] at this
      exact (Option.some.inj this).symm
  · rw [List.getElem?_eq_none (by rw [states_len]; omega), List.getElem?_eq_none (by omega)]
theorem states_same {k : List Nat} {ps ps' : List Pr} (c : Case k ps) (g : Good k ps) (c' : Case k ps') (h : ∀ r, Fits k ps r ↔ Fits k ps' r) : statesR k ps = statesR k ps' := by
  obtain ⟨r0, f0⟩ := (good_iff c).mp g
  have g' : Good k ps' := (good_iff c').mpr ⟨r0, (h r0).mp f0⟩
  unfold statesR
  exact List.map_congr_left fun d hd => st_eq c g c' g' f0 rfl h (List.mem_range.mp hd)
theorem fits_mem {k : List Nat} {ps ps' : List Pr} (h : ∀ p, p ∈ ps ↔ p ∈ ps') (r : List Nat) : Fits k ps r ↔ Fits k ps' r :=
  ⟨fun f => ⟨f.row, f.len, f.day, fun p hp => f.kp p ((h p).mpr hp)⟩, fun f => ⟨f.row, f.len, f.day, fun p hp => f.kp p ((h p).mp hp)⟩⟩
theorem fits_sub {k : List Nat} {ps ps' : List Pr} (h : ∀ p ∈ ps', p ∈ ps) {r : List Nat} (f : Fits k ps r) : Fits k ps' r := ⟨f.row, f.len, f.day, fun p hp => f.kp p (h p hp)⟩
theorem case_sub {k : List Nat} {ps ps' : List Pr} (h : ∀ p ∈ ps', p ∈ ps) (c : Case k ps) : Case k ps' := ⟨c.kn, c.len, fun p hp => c.ok p (h p hp)⟩
theorem good_sub {k : List Nat} {ps ps' : List Pr} (h : ∀ p ∈ ps', p ∈ ps) (c : Case k ps) (g : Good k ps) : Good k ps' := by
  obtain ⟨r, f⟩ := (good_iff c).mp g
  exact (fits_sub h f).good (case_sub h c)
/-- a promise by its data -/
theorem prom_of {n : Nat} {d : D} (h : promB (n : Int) d = true) : ∃ p : Pr, d = p.d ∧ p.ok n := by
  unfold promB at h
  split at h
  · rename_i kd st c e
    simp only [Bool.and_eq_true, decide_eq_true_eq] at h
    obtain ⟨⟨⟨h1, h2, h3⟩, h4⟩, h5⟩ := h
    cases c <;> simp only [intB] at h4 <;> try cases h4
    cases e <;> simp only [intB] at h5 <;> try cases h5
    rename_i c e
    simp only [Bool.and_eq_true, decide_eq_true_eq] at h4 h5
    refine ⟨⟨kd, (st + 1).toNat, (c - 1).toNat, e.toNat⟩, ?_, ?_, by simp only; omega, by simp only; omega, by simp only; omega⟩
    · have e1 : ((st + 1).toNat : Int) - 1 = st := by omega
      have e2 : ((c - 1).toNat : Int) + 1 = c := by omega
      have e3 : (e.toNat : Int) = e := by omega
      simp only [Pr.d, e1, e2, e3]
    · simp only [kindB, Bool.or_eq_true, beq_iff_eq] at h1
      rcases h1 with (h1 | h1) | h1
      · exact .inl h1
      · exact .inr (.inl h1)
      · exact .inr (.inr h1)
  · cases h
theorem prom_ok {n : Nat} {p : Pr} (h : p.ok n) : promB (n : Int) p.d = true := by
  obtain ⟨kd, s, c, e⟩ := p
  obtain ⟨h1, h2, h3, h4⟩ := h
  simp only at h1 h2 h3 h4
  simp only [Pr.d, promB, intB, Bool.and_eq_true, decide_eq_true_eq]
  refine ⟨⟨⟨?_, by omega, by omega⟩, by omega, by omega⟩, by omega, by omega⟩
  unfold kindB
  rcases h1 with rfl | rfl | rfl <;> decide
end U
end Fl
set_option Elab.async false
set_option linter.all false
set_option maxRecDepth 100000
set_option maxHeartbeats 1000000
namespace Fl
open L2 PySem U
/-! the log -/
section
variable {δ : Sl} {s s1 s2 : Sto} {c i l n : Nat} {fo fv : EF} {fr : AF} {ds xs : List D} {y : D} {F : FF}
theorem fld_at (ho : fo δ s = .val (.ob l) s1) (hs : s1[l]? = some (.ins c ds)) (hi : ds[i]? = some y) : fldF c i fo δ s = .val y s1 := by
  unfold fldF
  rw [ho, O.bind_val]
  simp only [hs, hi, if_true]
theorem meth_at (ho : fo δ s = .val (.ob l) s1) (hs : s1[l]? = some (.ins c ds)) (hr : fr δ s1 = .val xs s2) (hn : xs.length + 1 = n) : methF c n F fo fr δ s = F (.ob l :: xs) s2 := by
  unfold methF
  rw [ho, O.bind_val]
  simp only [hs, if_true]
  rw [hr, O.bind_val, if_pos hn]
theorem methS_at (ho : fo δ s = .val (.ob l) s1) (hs : s1[l]? = some (.ins c ds)) (hr : fr δ s1 = .val xs s2) : methSF c F fo fr δ s = noE (F (.ob l :: xs) s2) := by
  unfold methSF
  rw [ho, O.bind_val]
  simp only [hs, if_true]
  rw [hr, O.bind_val]
theorem prop_at (ho : fo δ s = .val (.ob l) s1) (hs : s1[l]? = some (.ins c ds)) : propF c F fo δ s = noE (F [.ob l] s1) := by
  unfold propF
  rw [ho, O.bind_val]
  simp only [hs, if_true]
theorem set_at (hv : fv δ s = .val y s1) (ho : fo δ s1 = .val (.ob l) s2) (hs : s2[l]? = some (.ins c ds)) (hi : i < ds.length) : setF c i fo fv δ s = .nx δ (s2.set l (.ins c (ds.set i y))) := by
  unfold setF
  rw [hv, O.go_val, ho, O.go_val]
  simp only [hs, if_true]
  rw [if_pos hi]
theorem set_app (hv : fv δ s = .val y s1) (ho : fo δ s1 = .val (.ob l) s2) (hs : s2[l]? = some (.ins c ds)) (hi : i = ds.length) : setF c i fo fv δ s = .nx δ (s2.set l (.ins c (ds ++ [y]))) := by
  unfold setF
  rw [hv, O.go_val, ho, O.go_val]
  simp only [hs, if_true]
  rw [if_neg (by omega), if_pos hi]
end
theorem raise_at {c : Nat} {δ : Sl} {s : Sto} : raiseS c δ s = .exc c δ s := rfl
def prsD (ps : List Pr) : D := .tup (ps.map Pr.d)
def logO (k : List Nat) (ps : List Pr) (st : List Nat) (e : Nat) : SO := .ins 2 [.str k, prsD ps, .str st, .ob e]
def lowE (E : List D) : Prop := ∀ d ∈ E, ∃ qs, d = prsD qs
theorem lows_flat {n : Nat} {E : List D} (h : lowE E) : lows n E = true := List.all_eq_true.mpr fun d hd => by
  obtain ⟨qs, rfl⟩ := h d hd
  rfl
structure LogS (l e : Nat) (k : List Nat) (ps : List Pr) (st : List Nat) (E : List D) (s : Sto) : Prop where
  hl : s[l]? = some (logO k ps st e)
  he : s[e]? = some (.lst E)
  ne : l ≠ e
  fl : lowE E
  le : E.length ≤ 1000
theorem prd_inj {p p' : Pr} (e : p.d = p'.d) : p = p' := by
  obtain ⟨a, b, c', d⟩ := p
  obtain ⟨a', b', c'', d'⟩ := p'
  simp only [Pr.d, D.tup.injEq, List.cons.injEq, D.str.injEq, D.int.injEq] at e
  obtain ⟨rfl, q1, q2, q3, _⟩ := e
  obtain rfl : b = b' := by omega
  obtain rfl : c' = c'' := by omega
  obtain rfl : d = d' := by omega
  rfl
theorem prd_gd {n : Nat} {p : Pr} (ok : p.ok n) : gd 100 6 p.d = true := by
  unfold Pr.d
  rw [show (6 : Nat) = 5 + 1 from rfl, gd_tup]
  refine ⟨by simp, fun d hd => ?_⟩
  simp only [List.mem_cons, List.not_mem_nil, or_false] at hd
  rcases hd with rfl | rfl | rfl | rfl
  · rw [gd_str]
    rcases ok.kd with e | e | e <;> rw [e] <;> decide
  · rfl
  · rfl
  · rfl
theorem outF_excT {s s' : Sto} {δ : Sl} {n : Nat} (c : Chk s s') : outF s (.exc n δ s') = .exc n (s'.take s.length) := outF_exc c
/-- (*ps, p) -/
theorem star_prs {δ : Sl} {s : Sto} {ps : List Pr} {p : Pr} {fa fb : EF} (h1 : fa δ s = .val (prsD ps) s) (h2 : fb δ s = .val p.d s) : starF fa (con fb nil) δ s = .val ((ps ++ [p]).map Pr.d) s := by
  unfold starF
  rw [h1, O.bind_val]
  simp -implicitDefEqProofs [prsD, view, h2]
theorem flats_prs (ps : List Pr) : flats (ps.map Pr.d) = true := flats_map (fun _ => rfl) ps
theorem check_spec {l e : Nat} {k : List Nat} {ps qs : List Pr} {st : List Nat} {E : List D} {s : Sto} {d : D} (L : LogS l e k ps st E s) (cq : Case k qs) (hq : qs.length ≤ 100) (hg : gd 100 6 d = true) :
    (promB (k.length : Int) d = false ∧ m_Log_check [.ob l, prsD qs, d] s = .exc 1 s) ∨ ∃ p : Pr, d = p.d ∧ p.ok k.length ∧ ((6 ≤ qs.length ∧ m_Log_check [.ob l, prsD qs, d] s = .exc 6 s) ∨ (qs.length < 6 ∧ ¬ Good k (qs ++ [p]) ∧ m_Log_check [.ob l, prsD qs, d] s = .exc 5 s) ∨
      (qs.length < 6 ∧ Good k (qs ++ [p]) ∧ m_Log_check [.ob l, prsD qs, d] s = .val .non s)) := by
  have f0 : fldF 2 0 (varF 0) [some (.ob l), some (prsD qs), some d] s = .val (.str k) s := fld_at rfl L.hl rfl
  have hp := is_promise_spec (s := s) hg (kn := k) (by have := cq.len; omega)
  have hL : lenG s [prsD qs] = .val (.int (qs.length : Int)) s := by
    unfold prsD; rw [lenG_tup]; simp
  by_cases hb : promB (k.length : Int) d = true
  · obtain ⟨p, rfl, ok⟩ := prom_of hb
    right
    refine ⟨p, rfl, ok, ?_⟩
    rw [hb] at hp
    by_cases h6 : 6 ≤ qs.length
    · left
      refine ⟨h6, ?_⟩
      have h6' : (6 : Int) ≤ (qs.length : Int) := by omega
      simp -implicitDefEqProofs [m_Log_check, fnF, b_Log_check, N_Log_check, startD, f0, hp, hL, raise_at, h6', outF_excT]
    · right
      have h6' : ¬ (6 : Int) ≤ (qs.length : Int) := by omega
      have cp : Case k (qs ++ [p]) := ⟨cq.kn, cq.len, fun q hq2 => by
        rcases List.mem_append.mp hq2 with z | z
        · exact cq.ok q z
        · rw [List.mem_singleton.mp z]; exact ok⟩
      have hs := star_prs (δ := [some (.ob l), some (prsD qs), some p.d]) (s := s) (ps := qs) (p := p) (fa := varF 1) (fb := varF 2) rfl rfl
      have hz1 := flats_prs (qs ++ [p])
      have hz2 : ((qs ++ [p]).map Pr.d).length ≤ 16000000 := by simp; omega
      have hpos := possible_spec (s := s) cp
      by_cases g : Good k (qs ++ [p])
      · right
        refine ⟨by omega, g, ?_⟩
        rw [goodB_iff.mpr g] at hpos
        generalize (qs ++ [p]).map Pr.d = zs at *
        simp -implicitDefEqProofs [m_Log_check, fnF, b_Log_check, N_Log_check, startD, f0, hp, hL, raise_at, h6', hs, hpos, hz1, hz2, outF_excT]
      · left
        refine ⟨by omega, g, ?_⟩
        rw [goodB_false g] at hpos
        generalize (qs ++ [p]).map Pr.d = zs at *
        simp -implicitDefEqProofs [m_Log_check, fnF, b_Log_check, N_Log_check, startD, f0, hp, hL, raise_at, h6', hs, hpos, hz1, hz2, outF_excT]
  · left
    have hb' : promB (k.length : Int) d = false := by simpa using hb
    refine ⟨hb', ?_⟩
    rw [hb'] at hp
    simp -implicitDefEqProofs [m_Log_check, fnF, b_Log_check, N_Log_check, startD, f0, hp, hL, raise_at, outF_excT]
def putL (l e : Nat) (k : List Nat) (ps : List Pr) (st : List Nat) (E : List D) (s : Sto) : Sto := (s.set e (.lst E)).set l (logO k ps st e)
section
variable {l e : Nat} {k : List Nat} {ps ps' : List Pr} {st st' : List Nat} {E E' : List D} {s : Sto}
theorem LogS.ll (L : LogS l e k ps st E s) : l < s.length := (List.getElem?_eq_some_iff.mp L.hl).1
theorem LogS.el (L : LogS l e k ps st E s) : e < s.length := (List.getElem?_eq_some_iff.mp L.he).1
theorem LogS.put (L : LogS l e k ps st E s) (f : lowE E') (h : E'.length ≤ 1000) : LogS l e k ps' st' E' (putL l e k ps' st' E' s) := by
  have h1 := L.ll
  have h2 := L.el
  refine ⟨?_, ?_, L.ne, f, h⟩
  · unfold putL; rw [List.getElem?_set_self (by simpa using h1)]
  · unfold putL; rw [List.getElem?_set_ne L.ne, List.getElem?_set_self h2]
theorem putL_len : (putL l e k ps st E s).length = s.length := by simp [putL]
theorem putL_ne {j : Nat} (h1 : j ≠ l) (h2 : j ≠ e) : (putL l e k ps st E s)[j]? = s[j]? := by
  unfold putL
  rw [List.getElem?_set_ne (Ne.symm h1), List.getElem?_set_ne (Ne.symm h2)]
theorem lowO_log (h : e < s.length) : lowO s.length (logO k ps st e) = true := by
  simp [logO, lowO, lows, low, prsD, h]
theorem chk_put (L : LogS l e k ps st E s) (f : lowE E') : Chk s (putL l e k ps' st' E' s) := fun j hj => by
  by_cases h1 : j = l
  · subst h1
    exact .inr ⟨_, (by unfold putL; rw [List.getElem?_set_self (by simpa using hj)]), lowO_log L.el⟩
  · by_cases h2 : j = e
    · subst h2
      exact .inr ⟨_, (by unfold putL; rw [List.getElem?_set_ne L.ne, List.getElem?_set_self hj]), show lowO s.length (.lst E') = true from lows_flat f⟩
    · exact .inl (putL_ne h1 h2)
theorem become_spec (L : LogS l e k ps st E s) (c : Case k ps') (g : Good k ps') : m_Log_become [.ob l, prsD ps'] s = .val .non (s.set l (logO k ps' (statesR k ps') e)) := by
  have h1 : setF 2 1 (varF 0) (varF 1) [some (.ob l), some (prsD ps')] s = .nx [some (.ob l), some (prsD ps')] (s.set l (logO k ps' st e)) := set_at rfl rfl L.hl (by simp)
  have hl2 : (s.set l (logO k ps' st e))[l]? = some (logO k ps' st e) := List.getElem?_set_self L.ll
  have f0 : fldF 2 0 (varF 0) [some (.ob l), some (prsD ps')] (s.set l (logO k ps' st e)) = .val (.str k) (s.set l (logO k ps' st e)) := fld_at rfl hl2 rfl
  have hst := states_spec (s := s.set l (logO k ps' st e)) c
  rw [goodB_iff.mpr g, if_pos rfl] at hst
  have hc : callF 2 m_day_states (con (fldF 2 0 (varF 0)) (con (varF 1) (nil))) [some (.ob l), some (prsD ps')] (s.set l (logO k ps' st e)) = .val (.str (statesR k ps')) (s.set l (logO k ps' st e)) := by
    have hst' : m_day_states [.str k, prsD ps'] (s.set l (logO k ps' st e)) = .val (.str (statesR k ps')) (s.set l (logO k ps' st e)) := hst
    simp -implicitDefEqProofs [f0, hst']
  have h2 : setF 2 2 (varF 0) (callF 2 m_day_states (con (fldF 2 0 (varF 0)) (con (varF 1) (nil)))) [some (.ob l), some (prsD ps')] (s.set l (logO k ps' st e)) = .nx [some (.ob l), some (prsD ps')] ((s.set l (logO k ps' st e)).set l (logO k ps' (statesR k ps') e)) := set_at hc rfl hl2 (by simp)
  rw [List.set_set] at h2
  have hch : Chk s (s.set l (logO k ps' (statesR k ps') e)) := Chk.set (lowO_log L.el)
  have htk : (s.set l (logO k ps' (statesR k ps') e)).take s.length = s.set l (logO k ps' (statesR k ps') e) := List.take_of_length_le (by simp)
  simp -implicitDefEqProofs [m_Log_become, fnF, b_Log_become, N_Log_become, startD, h1, h2, hch, htk]
theorem opens_loop {a0 a1 a2 a3 a4 a5 : Option D} (hl : st.length ≤ 1000) : loopC (nameG 6) (tst (bin eqG (varF 6) (cF (.str [63])))) (varF 6) [a0, a1, a2, a3, a4, a5, none] (st.map fun c => D.str [c]) [] s = .val ((st.filter fun c => decide (c = 63)).map fun c => D.str [c]) s := by
  have := loopC_mapf (g := nameG 6) (t := tst (bin eqG (varF 6) (cF (.str [63])))) (e := varF 6) (δ := [a0, a1, a2, a3, a4, a5, none]) (s := s) (fun c : Nat => D.str [c]) (fun c => decide (c = 63)) (fun c => D.str [c]) st [] (fun c hc => ⟨_, rfl, by
    have e : (c == 63) = decide (c = 63) := by rw [Bool.eq_iff_iff]; simp
    simp -implicitDefEqProofs [e], fun _ => ⟨rfl, rfl⟩⟩) (by simp; omega)
  simpa using this
theorem add_spec {p : Pr} (L : LogS l e k ps st E s) (c : Case k (ps ++ [p])) (g : Good k (ps ++ [p])) (h6 : ps.length < 6) (hE : E.length < 900) :
    ∃ n : Int, m_Log_add [.ob l, .str p.k, .int ((p.s : Int) - 1), .int ((p.c : Int) + 1), .int (p.e : Int)] s = .val (.int n) (putL l e k (ps ++ [p]) (statesR k (ps ++ [p])) (E ++ [prsD ps]) s) := by
  have hk := c.len
  have ok := c.ok p (by simp)
  have cq : Case k ps := case_sub (fun q hq => by simp [hq]) c
  have hgd : gd 100 6 p.d = true := prd_gd ok
  have hck : m_Log_check [.ob l, prsD ps, p.d] s = .val .non s := by
    rcases check_spec L cq (by omega) hgd with ⟨z, _⟩ | ⟨p', e', _, z⟩
    · rw [prom_ok ok] at z; cases z
    · have hp' : p' = p := by
        obtain ⟨a, b, c', d⟩ := p
        obtain ⟨a', b', c'', d'⟩ := p'
        simp only [Pr.d, D.tup.injEq, List.cons.injEq, D.str.injEq, D.int.injEq] at e'
        obtain ⟨rfl, q1, q2, q3, _⟩ := e'
        obtain rfl : b = b' := by omega
        obtain rfl : c' = c'' := by omega
        obtain rfl : d = d' := by omega
        rfl
      subst hp'
      rcases z with ⟨z, _⟩ | ⟨_, z, _⟩ | ⟨_, _, z⟩
      · omega
      · exact absurd g z
      · exact z
  have hl1 : (s.set e (.lst (E ++ [prsD ps])))[l]? = some (logO k ps st e) := by rw [List.getElem?_set_ne (Ne.symm L.ne)]; exact L.hl
  have L1 : LogS l e k ps st (E ++ [prsD ps]) (s.set e (.lst (E ++ [prsD ps]))) := ⟨hl1, List.getElem?_set_self L.el, L.ne, fun d hd => by
    rcases List.mem_append.mp hd with z | z
    · exact L.fl d z
    · exact ⟨ps, List.mem_singleton.mp z⟩, by simp; omega⟩
  have f1 : fldF 2 1 (varF 0) [some (.ob l), some (.str p.k), some (.int ((p.s : Int) - 1)), some (.int ((p.c : Int) + 1)), some (.int (p.e : Int)), some p.d, none] s = .val (prsD ps) s := fld_at rfl L.hl rfl
  have m1 : methF 2 3 m_Log_check (varF 0) (con (fldF 2 1 (varF 0)) (con (varF 5) (nil))) [some (.ob l), some (.str p.k), some (.int ((p.s : Int) - 1)), some (.int ((p.c : Int) + 1)), some (.int (p.e : Int)), some p.d, none] s = .val .non s :=
    (meth_at (l := l) (xs := [prsD ps, p.d]) (s1 := s) (s2 := s) rfl L.hl (by simp -implicitDefEqProofs [f1]) rfl).trans hck
  have f3 : fldF 2 3 (varF 0) [some (.ob l), some (.str p.k), some (.int ((p.s : Int) - 1)), some (.int ((p.c : Int) + 1)), some (.int (p.e : Int)), some p.d, none] s = .val (.ob e) s := fld_at rfl L.hl rfl
  obtain ⟨o1, o2⟩ := app_at (d := prsD ps) L.he (by have := L.le; omega)
  have m0 : dropS (meB' isOwn appG (fldF 2 3 (varF 0)) (con (fldF 2 1 (varF 0)) (nil))) [some (.ob l), some (.str p.k), some (.int ((p.s : Int) - 1)), some (.int ((p.c : Int) + 1)), some (.int (p.e : Int)), some p.d, none] s = .nx [some (.ob l), some (.str p.k), some (.int ((p.s : Int) - 1)), some (.int ((p.c : Int) + 1)), some (.int (p.e : Int)), some p.d, none] (s.set e (.lst (E ++ [prsD ps]))) := by
    simp -implicitDefEqProofs [f1, f3, o1, o2]
  have f1s : fldF 2 1 (varF 0) [some (.ob l), some (.str p.k), some (.int ((p.s : Int) - 1)), some (.int ((p.c : Int) + 1)), some (.int (p.e : Int)), some p.d, none] (s.set e (.lst (E ++ [prsD ps]))) = .val (prsD ps) (s.set e (.lst (E ++ [prsD ps]))) := fld_at rfl hl1 rfl
  have hs := star_prs (p := p) f1s (show varF 5 [some (.ob l), some (.str p.k), some (.int ((p.s : Int) - 1)), some (.int ((p.c : Int) + 1)), some (.int (p.e : Int)), some p.d, none] (s.set e (.lst (E ++ [prsD ps]))) = .val p.d _ from rfl)
  have hz1 := flats_prs (ps ++ [p])
  have hz2 : ((ps ++ [p]).map Pr.d).length ≤ 16000000 := by simp; omega
  have m2 : methF 2 2 m_Log_become (varF 0) (con (tupE (starF (fldF 2 1 (varF 0)) (con (varF 5) (nil)))) (nil)) [some (.ob l), some (.str p.k), some (.int ((p.s : Int) - 1)), some (.int ((p.c : Int) + 1)), some (.int (p.e : Int)), some p.d, none] (s.set e (.lst (E ++ [prsD ps]))) = .val .non (putL l e k (ps ++ [p]) (statesR k (ps ++ [p])) (E ++ [prsD ps]) s) := by
    refine (meth_at (l := l) (xs := [prsD (ps ++ [p])]) (s1 := s.set e (.lst (E ++ [prsD ps]))) (s2 := s.set e (.lst (E ++ [prsD ps]))) rfl hl1 ?_ rfl).trans (become_spec L1 c g)
    unfold prsD at *
    generalize (ps ++ [p]).map Pr.d = zs at *
    simp -implicitDefEqProofs [hs, hz1, hz2]
  have L2' := L.put (ps' := ps ++ [p]) (st' := statesR k (ps ++ [p])) L1.fl L1.le
  have f2 : fldF 2 2 (varF 0) [some (.ob l), some (.str p.k), some (.int ((p.s : Int) - 1)), some (.int ((p.c : Int) + 1)), some (.int (p.e : Int)), some p.d, none] (putL l e k (ps ++ [p]) (statesR k (ps ++ [p])) (E ++ [prsD ps]) s) = .val (.str (statesR k (ps ++ [p]))) (putL l e k (ps ++ [p]) (statesR k (ps ++ [p])) (E ++ [prsD ps]) s) := fld_at rfl L2'.hl rfl
  have hch := chk_put (ps' := ps ++ [p]) (st' := statesR k (ps ++ [p])) L L1.fl
  have htk : (putL l e k (ps ++ [p]) (statesR k (ps ++ [p])) (E ++ [prsD ps]) s).take s.length = putL l e k (ps ++ [p]) (statesR k (ps ++ [p])) (E ++ [prsD ps]) s := List.take_of_length_le (by rw [putL_len]; exact Nat.le_refl _)
  have hsl : (statesR k (ps ++ [p])).length ≤ 1000 := by rw [states_len]; omega
  generalize putL l e k (ps ++ [p]) (statesR k (ps ++ [p])) (E ++ [prsD ps]) s = S at *
  generalize statesR k (ps ++ [p]) = st2 at *
  refine ⟨((st2.filter fun c => decide (c = 63)).length : Nat), ?_⟩
  have r5 : fnB lenG (con (compF (walkF (fldF 2 2 (varF 0))) [6] (nameG 6) (tst (bin eqG (varF 6) (cF (.str [63])))) (varF 6)) (nil)) [some (.ob l), some (.str p.k), some (.int ((p.s : Int) - 1)), some (.int ((p.c : Int) + 1)), some (.int (p.e : Int)), some p.d, none] S = .val (.int ((st2.filter fun c => decide (c = 63)).length : Nat)) S := by
    have hol := @opens_loop st2 S (some (.ob l)) (some (.str p.k)) (some (.int ((p.s : Int) - 1))) (some (.int ((p.c : Int) + 1))) (some (.int (p.e : Int))) (some p.d) hsl
    have hw : walkF (fldF 2 2 (varF 0)) [some (.ob l), some (.str p.k), some (.int ((p.s : Int) - 1)), some (.int ((p.c : Int) + 1)), some (.int (p.e : Int)), some p.d, none] S = .val (st2.map fun c => D.str [c]) S := by
      simp -implicitDefEqProofs [f2]
    simp -implicitDefEqProofs [f2, hol, wipeD]
  have hol := @opens_loop st2 S (some (.ob l)) (some (.str p.k)) (some (.int ((p.s : Int) - 1))) (some (.int ((p.c : Int) + 1))) (some (.int (p.e : Int))) (some p.d) hsl
  simp only [Pr.d] at m1 f1 f3 m2 f2 hol
  simp -implicitDefEqProofs [m_Log_add, fnF, b_Log_add, N_Log_add, startD, flats, flat, m1, f1, f3, o1, o2, m2, f2, hol, wipeD, hch, htk]
end
end Fl
set_option Elab.async false
set_option linter.all false
set_option maxRecDepth 100000
set_option maxHeartbeats 1000000
namespace Fl
open L2 PySem U
/-! a log made, tried, undone, compared -/
theorem known_rows_spec {s : Sto} {b m : Nat} {d : D} (h : gd b m d = true) (hb : b ≤ 1000) : m_is_known_rows [d] s = .val (.bl (lettersB [119, 102, 63] d)) s := by
  have e := are_letters_spec (s := s) (z := [119, 102, 63]) h hb
  simp -implicitDefEqProofs [m_is_known_rows, fnF, b_is_known_rows, N_is_known_rows, startD, e]
theorem known_ok {k : List Nat} (hk : Kn k) (h1 : 1 ≤ k.length) (h2 : k.length ≤ 31) : lettersB [119, 102, 63] (.str k) = true := by
  simp only [lettersB, Bool.and_eq_true, decide_eq_true_eq, List.all_eq_true]
  refine ⟨⟨h1, h2⟩, fun c hc => ?_⟩
  rcases hk c hc with e | e | e <;> subst e <;> decide
theorem linit_spec {k : List Nat} {t : Nat} {s : Sto} (hs : s[t]? = some (.ins 2 [])) (hk : Kn k) (h1 : 1 ≤ k.length) (h2 : k.length ≤ 31) : m_LogD__initD_ [.ob t, .str k] s = .val .non ((s ++ [SO.lst []]).set t (logO k [] k s.length)) := by
  have ht : t < s.length := (List.getElem?_eq_some_iff.mp hs).1
  have hkn := fun s => known_rows_spec (s := s) (b := 100) (m := 1) (d := .str k) (by rw [gd_str]; omega) (by omega)
  rw [known_ok hk h1 h2] at hkn
  have f1 : setF 2 0 (varF 0) (varF 1) [some (.ob t), some (.str k)] s = .nx [some (.ob t), some (.str k)] (s.set t (.ins 2 [.str k])) := set_app (ds := []) rfl rfl hs rfl
  have f2 : setF 2 1 (varF 0) (tupE (nil)) [some (.ob t), some (.str k)] (s.set t (.ins 2 [.str k])) = .nx [some (.ob t), some (.str k)] ((s.set t (.ins 2 [.str k])).set t (.ins 2 [.str k, .tup []])) := set_app (ds := [.str k]) rfl rfl (List.getElem?_set_self ht) rfl
  rw [List.set_set] at f2
  have f3 : setF 2 2 (varF 0) (varF 1) [some (.ob t), some (.str k)] (s.set t (.ins 2 [.str k, .tup []])) = .nx [some (.ob t), some (.str k)] ((s.set t (.ins 2 [.str k, .tup []])).set t (.ins 2 [.str k, .tup [], .str k])) := set_app (ds := [.str k, .tup []]) rfl rfl (List.getElem?_set_self ht) rfl
  rw [List.set_set] at f3
  have hlen : (s.set t (.ins 2 [.str k, .tup [], .str k])).length = s.length := by simp
  have f4 : setF 2 3 (varF 0) (ownE (nil)) [some (.ob t), some (.str k)] (s.set t (.ins 2 [.str k, .tup [], .str k])) = .nx [some (.ob t), some (.str k)] ((s.set t (.ins 2 [.str k, .tup [], .str k]) ++ [SO.lst []]).set t (.ins 2 [.str k, .tup [], .str k, .ob (s.set t (.ins 2 [.str k, .tup [], .str k])).length])) :=
    set_app (ds := [.str k, .tup [], .str k]) rfl rfl (by rw [List.getElem?_append_left (by simpa using ht)]; exact List.getElem?_set_self ht) rfl
  rw [hlen] at f4
  have hfin : (s.set t (.ins 2 [.str k, .tup [], .str k]) ++ [SO.lst []]).set t (.ins 2 [.str k, .tup [], .str k, .ob s.length]) = (s ++ [SO.lst []]).set t (logO k [] k s.length) := by
    rw [List.set_append_left _ _ (by simpa using ht), List.set_set, List.set_append_left _ _ ht]; rfl
  rw [hfin] at f4
  simp -implicitDefEqProofs [m_LogD__initD_, fnK, b_LogD__initD_, N_LogD__initD_, startD, hkn, f1, f2, f3, f4]
def madeL (k : List Nat) (ps : List Pr) (st : List Nat) (E : List D) (s : Sto) : Sto := s ++ [logO k ps st (s.length + 1), .lst E]
theorem madeL_at {k : List Nat} {ps : List Pr} {st : List Nat} {E : List D} {s : Sto} (f : lowE E) (h : E.length ≤ 1000) : LogS s.length (s.length + 1) k ps st E (madeL k ps st E s) := by
  refine ⟨by simp [madeL], ?_, by omega, f, h⟩
  unfold madeL
  rw [List.getElem?_append_right (by omega)]
  simp
theorem put_made {k : List Nat} {ps ps' : List Pr} {st st' : List Nat} {E E' : List D} {s : Sto} : putL s.length (s.length + 1) k ps' st' E' (madeL k ps st E s) = madeL k ps' st' E' s := by
  unfold putL madeL
  rw [List.set_append_right _ _ (by omega), List.set_append_right _ _ (by omega)]
  simp
theorem makeL {k : List Nat} {δ : Sl} {s : Sto} {i : Nat} (hi : δ[i]? = some (some (.str k))) (hk : Kn k) (h1 : 1 ≤ k.length) (h2 : k.length ≤ 31) : makeF 2 2 m_LogD__initD_ (con (varF i) (nil)) δ s = .val (.ob s.length) (madeL k [] k [] s) := by
  have happ : (s ++ [SO.ins 2 []])[s.length]? = some (.ins 2 []) := by simp
  have hh := linit_spec (k := k) happ hk h1 h2
  have e : ((s ++ [SO.ins 2 []]) ++ [SO.lst []]).set s.length (logO k [] k (s ++ [SO.ins 2 []]).length) = madeL k [] k [] s := by
    simp [madeL]
  rw [e] at hh
  unfold makeF
  simp -implicitDefEqProofs [hi, hh]
/-- what was held before each call -/
def befores (ps : List Pr) : List D := (List.range ps.length).map fun i => prsD (ps.take i)
theorem befores_low (ps : List Pr) : lowE (befores ps) := fun d hd => by
  obtain ⟨i, _, rfl⟩ := List.mem_map.mp hd
  exact ⟨_, rfl⟩
theorem befores_snoc (ps : List Pr) (p : Pr) : befores (ps ++ [p]) = befores ps ++ [prsD ps] := by
  unfold befores
  rw [List.length_append, List.length_singleton, List.range_succ, List.map_append, List.map_singleton]
  congr 1
  · refine List.map_congr_left fun i hi => ?_
    have := List.mem_range.mp hi
    rw [List.take_append_of_le_length (by omega)]
  · rw [List.take_append_of_le_length (Nat.le_refl _), List.take_length]
theorem befores_len (ps : List Pr) : (befores ps).length = ps.length := by simp [befores]
theorem log_spec {k : List Nat} {ps : List Pr} {s : Sto} (c : Case k ps) (g : Good k ps) (h1 : 1 ≤ k.length) (h2 : k.length ≤ 31) (h6 : ps.length ≤ 6) : m_law_log [.str k, prsD ps] s = .val (.ob s.length) (madeL k ps (statesR k ps) (befores ps) s) := by
  have mk := makeL (δ := [some (.str k), some (prsD ps), none, none, none, none, none]) (s := s) (i := 0) rfl c.kn h1 h2
  have st0 : statesR k [] = k := states_nil (nil_case c)
  obtain ⟨δ', s', e2, a3, a4, a5, a6, rfl, rfl⟩ := loop_inv (g := tupG [(nameG 3), (nameG 4), (nameG 5), (nameG 6)]) (body := l_law_log_1) (xs := ps.map Pr.d)
    (fun i δ s' => ∃ a3 a4 a5 a6, δ = [some (.str k), some (prsD ps), some (.ob s.length), a3, a4, a5, a6] ∧ s' = madeL k (ps.take i) (statesR k (ps.take i)) (befores (ps.take i)) s)
    (fun i x δ s' hx hI => by
      obtain ⟨a3, a4, a5, a6, rfl, rfl⟩ := hI
      rw [List.getElem?_map] at hx
      obtain ⟨p, hp, rfl⟩ := Option.map_eq_some_iff.mp hx
      have hi : i < ps.length := (List.getElem?_eq_some_iff.mp hp).1
      have hsn := take_snoc hp
      have hsub : ∀ q ∈ ps.take i ++ [p], q ∈ ps := fun q hq => by rw [← hsn] at hq; exact List.mem_of_mem_take hq
      have hlen : (ps.take i).length = i := by rw [List.length_take]; omega
      obtain ⟨n, e⟩ := add_spec (madeL_at (s := s) (st := statesR k (ps.take i)) (ps := ps.take i) (k := k) (E := befores (ps.take i)) (befores_low _) (by rw [befores_len]; omega)) (case_sub hsub c) (good_sub hsub c g) (by omega) (by rw [befores_len]; omega)
      rw [put_made, ← befores_snoc, ← hsn] at e
      refine ⟨_, _, ?_, some (.str p.k), some (.int ((p.s : Int) - 1)), some (.int ((p.c : Int) + 1)), some (.int (p.e : Int)), rfl, rfl⟩
      have hob : (madeL k (ps.take i) (statesR k (ps.take i)) (befores (ps.take i)) s)[s.length]? = some (logO k (ps.take i) (statesR k (ps.take i)) (s.length + 1)) := by simp [madeL]
      have hm : methF 2 5 m_Log_add (varF 2) (con (varF 3) (con (varF 4) (con (varF 5) (con (varF 6) (nil))))) [some (.str k), some (prsD ps), some (.ob s.length), some (.str p.k), some (.int ((p.s : Int) - 1)), some (.int ((p.c : Int) + 1)), some (.int (p.e : Int))] (madeL k (ps.take i) (statesR k (ps.take i)) (befores (ps.take i)) s) = .val (.int n) (madeL k (ps.take (i + 1)) (statesR k (ps.take (i + 1))) (befores (ps.take (i + 1))) s) :=
        (meth_at (l := s.length) (xs := [.str p.k, .int ((p.s : Int) - 1), .int ((p.c : Int) + 1), .int (p.e : Int)]) rfl hob (by simp -implicitDefEqProofs) rfl).trans e
      simp -implicitDefEqProofs [turn, l_law_log_1, Pr.d, hm])
    (δ := [some (.str k), some (prsD ps), some (.ob s.length), none, none, none, none]) (s := madeL k [] k [] s) ⟨none, none, none, none, rfl, by simp [st0, befores]⟩
  rw [List.length_map, List.take_length] at e2
  unfold prsD at *
  generalize ps.map Pr.d = zs at *
  simp -implicitDefEqProofs [m_law_log, fnK, b_law_log, N_law_log, startD, mk, e2]
end Fl
set_option Elab.async false
set_option linter.all false
set_option maxRecDepth 100000
set_option maxHeartbeats 1000000
namespace Fl
open L2 PySem U
/-! try_all, undo, == -/
/-- all can be added -/
def Fine (k : List Nat) (ps : List Pr) (ds : List D) (qs : List Pr) : Prop := ds = qs.map Pr.d ∧ (∀ q ∈ qs, q.ok k.length) ∧ (ps ++ qs).length ≤ 6 ∧ Good k (ps ++ qs)
theorem case_app {k : List Nat} {ps qs : List Pr} (c : Case k ps) (h : ∀ q ∈ qs, q.ok k.length) : Case k (ps ++ qs) := ⟨c.kn, c.len, fun q hq => by
  rcases List.mem_append.mp hq with z | z
  · exact c.ok q z
  · exact h q z⟩
theorem try_loop {l e : Nat} {k : List Nat} {ps0 : List Pr} {st : List Nat} {E : List D} {s : Sto} {all : D} (L : LogS l e k ps0 st E s) :
    ∀ (ds : List D) (ps : List Pr) (a3 : Option D), (∀ d ∈ ds, gd 100 6 d = true) → Case k ps → Good k ps → ps.length ≤ 6 →
      (∃ qs a3', Fine k ps ds qs ∧ loopS (nameG 3) l_Log_try_all_v1_1 ds [some (.ob l), some all, some (prsD ps), a3] s = .nx [some (.ob l), some all, some (prsD (ps ++ qs)), a3'] s) ∨
      ((∀ qs, ¬ Fine k ps ds qs) ∧ loopS (nameG 3) l_Log_try_all_v1_1 ds [some (.ob l), some all, some (prsD ps), a3] s = .rt (.bl false) s)
  | [], ps, a3, _, c, g, h6 => by
    left
    refine ⟨[], a3, ⟨rfl, fun q hq => (nomatch hq), by simpa using h6, by simpa using g⟩, ?_⟩
    rw [List.append_nil]; rfl
  | d :: ds, ps, a3, hg, c, g, h6 => by
    have hgd := hg d (List.mem_cons_self ..)
    have bad : ∀ n, n ∈ [1, 5, 6] → m_Log_check [.ob l, prsD ps, d] s = .exc n s → loopS (nameG 3) l_Log_try_all_v1_1 (d :: ds) [some (.ob l), some all, some (prsD ps), a3] s = .rt (.bl false) s := fun n hn hc => by
      refine loopS_rt ?_
      have hm : methF 2 3 m_Log_check (varF 0) (con (varF 2) (con (varF 3) (nil))) [some (.ob l), some all, some (prsD ps), some d] s = .exc n s :=
        (meth_at (l := l) (xs := [prsD ps, d]) rfl L.hl (by simp -implicitDefEqProofs) rfl).trans hc
      have ht : tryT [1, 5, 6] (dropS (methF 2 3 m_Log_check (varF 0) (con (varF 2) (con (varF 3) (nil))))) (retS (cF (.bl false))) [some (.ob l), some all, some (prsD ps), some d] s = .rt (.bl false) s := by
        unfold tryT
        have : dropS (methF 2 3 m_Log_check (varF 0) (con (varF 2) (con (varF 3) (nil)))) [some (.ob l), some all, some (prsD ps), some d] s = .exc n [some (.ob l), some all, some (prsD ps), some d] s := by
          simp -implicitDefEqProofs [hm]
        rw [this]
        simp only [if_pos hn]
        rfl
      simp -implicitDefEqProofs [turn, l_Log_try_all_v1_1, ht]
    rcases check_spec L c (by omega) hgd with ⟨hb, hc⟩ | ⟨p, rfl, ok, hc⟩
    · right
      refine ⟨fun qs f => ?_, bad 1 (by decide) hc⟩
      obtain ⟨e1, e2, _, _⟩ := f
      cases qs with
      | nil => cases e1
      | cons q qs =>
        simp only [List.map_cons, List.cons.injEq] at e1
        rw [e1.1, prom_ok (e2 q (List.mem_cons_self ..))] at hb
        cases hb
    · rcases hc with ⟨h, hc⟩ | ⟨h, ng, hc⟩ | ⟨h, g2, hc⟩
      · right
        refine ⟨fun qs f => ?_, bad 6 (by decide) hc⟩
        obtain ⟨e1, e2, e3, _⟩ := f
        cases qs with
        | nil => cases e1
        | cons q qs => simp at e3; omega
      · right
        refine ⟨fun qs f => ?_, bad 5 (by decide) hc⟩
        obtain ⟨e1, e2, e3, e4⟩ := f
        cases qs with
        | nil => cases e1
        | cons q qs =>
          simp only [List.map_cons, List.cons.injEq] at e1
          obtain rfl := prd_inj e1.1
          exact ng (good_sub (fun x hx => by
            rcases List.mem_append.mp hx with z | z
            · exact List.mem_append.mpr (.inl z)
            · rw [List.mem_singleton.mp z]; exact List.mem_append.mpr (.inr (List.mem_cons_self ..))) (case_app c e2) e4)
      · have c2 : Case k (ps ++ [p]) := case_app c fun q hq => by rw [List.mem_singleton.mp hq]; exact ok
        have hm : methF 2 3 m_Log_check (varF 0) (con (varF 2) (con (varF 3) (nil))) [some (.ob l), some all, some (prsD ps), some p.d] s = .val .non s :=
          (meth_at (l := l) (xs := [prsD ps, p.d]) rfl L.hl (by simp -implicitDefEqProofs) rfl).trans hc
        have ht : tryT [1, 5, 6] (dropS (methF 2 3 m_Log_check (varF 0) (con (varF 2) (con (varF 3) (nil))))) (retS (cF (.bl false))) [some (.ob l), some all, some (prsD ps), some p.d] s = .nx [some (.ob l), some all, some (prsD ps), some p.d] s := by
          unfold tryT
          have : dropS (methF 2 3 m_Log_check (varF 0) (con (varF 2) (con (varF 3) (nil)))) [some (.ob l), some all, some (prsD ps), some p.d] s = .nx [some (.ob l), some all, some (prsD ps), some p.d] s := by
            simp -implicitDefEqProofs [hm]
          rw [this]
        have hs := star_prs (δ := [some (.ob l), some all, some (prsD ps), some p.d]) (s := s) (ps := ps) (p := p) (fa := varF 2) (fb := varF 3) rfl rfl
        have hz1 := flats_prs (ps ++ [p])
        have hz2 : ((ps ++ [p]).map Pr.d).length ≤ 16000000 := by simp; omega
        have tu : turn (nameG 3) l_Log_try_all_v1_1 p.d [some (.ob l), some all, some (prsD ps), a3] s = .nx [some (.ob l), some all, some (prsD (ps ++ [p])), some p.d] s := by
          unfold prsD at *
          generalize (ps ++ [p]).map Pr.d = zs at *
          simp -implicitDefEqProofs [turn, l_Log_try_all_v1_1, ht, hs, hz1, hz2]
        rw [loopS_cons tu]
        rcases try_loop L ds (ps ++ [p]) (some p.d) (fun x hx => hg x (List.mem_cons_of_mem _ hx)) c2 g2 (by simp; omega) with ⟨qs, a3', f, e1⟩ | ⟨nf, e1⟩
        · left
          obtain ⟨f1, f2, f3, f4⟩ := f
          refine ⟨p :: qs, a3', ⟨by rw [f1]; rfl, fun q hq => ?_, by simpa using f3, by simpa using f4⟩, by rw [e1]; simp⟩
          rcases List.mem_cons.mp hq with rfl | z
          · exact ok
          · exact f2 q z
        · right
          refine ⟨fun qs f => ?_, e1⟩
          obtain ⟨f1, f2, f3, f4⟩ := f
          cases qs with
          | nil => cases f1
          | cons q qs =>
            simp only [List.map_cons, List.cons.injEq] at f1
            obtain rfl := prd_inj f1.1
            exact nf qs ⟨f1.2, fun x hx => f2 x (List.mem_cons_of_mem _ hx), by simpa using f3, by simpa using f4⟩
theorem gds_flat {ds : List D} (h : ∀ d ∈ ds, gd 100 6 d = true) : flats ds = true := List.all_eq_true.mpr fun d hd => gd_flat (h d hd)
theorem try_spec {l e : Nat} {k : List Nat} {ps : List Pr} {st : List Nat} {E ds : List D} {s : Sto} (L : LogS l e k ps st E s) (hE : E.length < 900) (hg : ∀ d ∈ ds, gd 100 6 d = true) (hd : ds.length ≤ 100) (c : Case k ps) (g : Good k ps) (h6 : ps.length ≤ 6) :
    (∃ qs, Fine k ps ds qs ∧ m_Log_try_all_v1 (.ob l :: ds) s = .val (.bl true) (putL l e k (ps ++ qs) (statesR k (ps ++ qs)) (E ++ [prsD ps]) s)) ∨ ((∀ qs, ¬ Fine k ps ds qs) ∧ m_Log_try_all_v1 (.ob l :: ds) s = .val (.bl false) s) := by
  have f1 : ∀ a b, fldF 2 1 (varF 0) [some (.ob l), some (.tup ds), a, b] s = .val (prsD ps) s := fun a b => fld_at rfl L.hl rfl
  have hfl := gds_flat hg
  have pre : m_Log_try_all_v1 (.ob l :: ds) s = fnF N_Log_try_all_v1 2 b_Log_try_all_v1 [.ob l, .tup ds] s := by
    unfold m_Log_try_all_v1 fnS
    rw [if_pos ⟨by simp, by simpa using hfl, by simp; omega⟩]
    rfl
  rcases try_loop (all := .tup ds) L ds ps none hg c g h6 with ⟨qs, a3, f, e1⟩ | ⟨nf, e1⟩
  · left
    refine ⟨qs, f, ?_⟩
    obtain ⟨q1, q2, q3, q4⟩ := f
    rw [pre]
    have hl1 : (s.set e (.lst (E ++ [prsD ps])))[l]? = some (logO k ps st e) := by rw [List.getElem?_set_ne (Ne.symm L.ne)]; exact L.hl
    have L1 : LogS l e k ps st (E ++ [prsD ps]) (s.set e (.lst (E ++ [prsD ps]))) := ⟨hl1, List.getElem?_set_self L.el, L.ne, fun d hd => by
      rcases List.mem_append.mp hd with z | z
      · exact L.fl d z
      · exact ⟨ps, List.mem_singleton.mp z⟩, by simp; omega⟩
    have f3 : fldF 2 3 (varF 0) [some (.ob l), some (.tup ds), some (prsD (ps ++ qs)), a3] s = .val (.ob e) s := fld_at rfl L.hl rfl
    obtain ⟨o1, o2⟩ := app_at (d := prsD ps) L.he (by have := L.le; omega)
    have m2 : methF 2 2 m_Log_become (varF 0) (con (varF 2) (nil)) [some (.ob l), some (.tup ds), some (prsD (ps ++ qs)), a3] (s.set e (.lst (E ++ [prsD ps]))) = .val .non (putL l e k (ps ++ qs) (statesR k (ps ++ qs)) (E ++ [prsD ps]) s) :=
      (meth_at (l := l) (xs := [prsD (ps ++ qs)]) rfl hl1 (by simp -implicitDefEqProofs) rfl).trans (become_spec L1 (case_app c q2) q4)
    have hch := chk_put (ps' := ps ++ qs) (st' := statesR k (ps ++ qs)) L L1.fl
    have htk : (putL l e k (ps ++ qs) (statesR k (ps ++ qs)) (E ++ [prsD ps]) s).take s.length = putL l e k (ps ++ qs) (statesR k (ps ++ qs)) (E ++ [prsD ps]) s := List.take_of_length_le (by rw [putL_len]; exact Nat.le_refl _)
    generalize putL l e k (ps ++ qs) (statesR k (ps ++ qs)) (E ++ [prsD ps]) s = S at *
    have f1' := f1 none none
    have f1'' := f1 (some (prsD (ps ++ qs))) a3
    simp -implicitDefEqProofs [fnF, b_Log_try_all_v1, N_Log_try_all_v1, startD, f1', f1'', e1, f3, o1, o2, m2, hch, htk]
  · right
    refine ⟨nf, ?_⟩
    rw [pre]
    have f1' := f1 none none
    simp -implicitDefEqProofs [fnF, b_Log_try_all_v1, N_Log_try_all_v1, startD, f1', e1]
theorem tried_spec {l e : Nat} {k : List Nat} {ps : List Pr} {st : List Nat} {E ds : List D} {s : Sto} (L : LogS l e k ps st E s) (hE : E.length < 900) (hg : ∀ d ∈ ds, gd 100 6 d = true) (hd : ds.length ≤ 3) (c : Case k ps) (g : Good k ps) (h6 : ps.length ≤ 6) :
    (∃ qs, Fine k ps ds qs ∧ m_law_tried [.ob l, .tup ds] s = .val (.bl true) (putL l e k (ps ++ qs) (statesR k (ps ++ qs)) (E ++ [prsD ps]) s)) ∨ ((∀ qs, ¬ Fine k ps ds qs) ∧ m_law_tried [.ob l, .tup ds] s = .val (.bl false) s) := by
  have key : ∀ (b : Bool) (S : Sto), Chk s S → S.length = s.length → m_Log_try_all_v1 (.ob l :: ds) s = .val (.bl b) S → m_law_tried [.ob l, .tup ds] s = .val (.bl b) S := fun b S hch hlen ht => by
    have htk : S.take s.length = S := List.take_of_length_le (by omega)
    match ds, hd, ht with
    | [], _, ht =>
      have hm : methSF 2 m_Log_try_all_v1 (varF 0) nil [some (.ob l), some (.tup [])] s = .val (.bl b) S := by
        rw [methS_at (l := l) (xs := []) (s2 := s) rfl L.hl rfl, ht]; rfl
      simp -implicitDefEqProofs [m_law_tried, fnF, b_law_tried, N_law_tried, startD, lenG_tup, hm, hch, htk]
    | [d1], _, ht =>
      have hm : methSF 2 m_Log_try_all_v1 (varF 0) (con (bin ixG (varF 1) (cF (.int 0))) (nil)) [some (.ob l), some (.tup [d1])] s = .val (.bl b) S := by
        rw [methS_at (l := l) (xs := [d1]) (s2 := s) rfl L.hl (by simp -implicitDefEqProofs), ht]; rfl
      simp -implicitDefEqProofs [m_law_tried, fnF, b_law_tried, N_law_tried, startD, lenG_tup, hm, hch, htk]
    | [d1, d2], _, ht =>
      have hm : methSF 2 m_Log_try_all_v1 (varF 0) (con (bin ixG (varF 1) (cF (.int 0))) (con (bin ixG (varF 1) (cF (.int 1))) (nil))) [some (.ob l), some (.tup [d1, d2])] s = .val (.bl b) S := by
        rw [methS_at (l := l) (xs := [d1, d2]) (s2 := s) rfl L.hl (by simp -implicitDefEqProofs), ht]; rfl
      simp -implicitDefEqProofs [m_law_tried, fnF, b_law_tried, N_law_tried, startD, lenG_tup, hm, hch, htk]
    | [d1, d2, d3], _, ht =>
      have hm : methSF 2 m_Log_try_all_v1 (varF 0) (con (bin ixG (varF 1) (cF (.int 0))) (con (bin ixG (varF 1) (cF (.int 1))) (con (bin ixG (varF 1) (cF (.int 2))) (nil)))) [some (.ob l), some (.tup [d1, d2, d3])] s = .val (.bl b) S := by
        rw [methS_at (l := l) (xs := [d1, d2, d3]) (s2 := s) rfl L.hl (by simp -implicitDefEqProofs), ht]; rfl
      simp -implicitDefEqProofs [m_law_tried, fnF, b_law_tried, N_law_tried, startD, lenG_tup, hm, hch, htk]
  rcases try_spec L hE hg (by omega) c g h6 with ⟨qs, f, e1⟩ | ⟨nf, e1⟩
  · exact .inl ⟨qs, f, key true _ (chk_put L fun d hd => by
      rcases List.mem_append.mp hd with z | z
      · exact L.fl d z
      · exact ⟨ps, List.mem_singleton.mp z⟩) putL_len e1⟩
  · exact .inr ⟨nf, key false s Chk.refl rfl e1⟩
end Fl
set_option Elab.async false
set_option linter.all false
set_option maxRecDepth 100000
set_option maxHeartbeats 1000000
namespace Fl
open L2 PySem U
/-! undo, ==, properties -/
theorem prs_dep (ps : List Pr) : dep (prsD ps) ≤ 2 := by
  have : deps (ps.map Pr.d) ≤ 1 := deps_le fun d hd => by
    obtain ⟨p, _, rfl⟩ := List.mem_map.mp hd
    rw [pr_dep]; exact Nat.le_refl _
  simp [prsD]; omega
theorem prs_ok {k : List Nat} {ps : List Pr} (c : Case k ps) : noBl (prsD ps) = true := by
  unfold prsD noBl
  exact noBls_map ps
where
  noBls_map : ∀ ps : List Pr, noBls (ps.map Pr.d) = true
    | [] => by simp [noBls]
    | p :: ps => by
      rw [List.map_cons, noBls, noBls_map ps]
      simp [Pr.d, noBl, noBls]
theorem prs_ok' (ps : List Pr) : noBl (prsD ps) = true := by
  unfold prsD noBl
  exact prs_ok.noBls_map ps
theorem noBls_of : ∀ {ds : List D}, (∀ d ∈ ds, noBl d = true) → noBls ds = true
  | [], _ => by simp [noBls]
  | d :: ds, h => by
    rw [noBls, h d (List.mem_cons_self ..), noBls_of fun x hx => h x (List.mem_cons_of_mem _ hx)]; rfl
theorem prs_deq (ps : List Pr) (k : List Nat) (c : Case k ps) : deq (prsD ps) (prsD ps) = true := (deq_iff _ _ (prs_ok c) (prs_ok c)).mpr rfl
theorem eq_prs {s : Sto} {k : List Nat} {ps : List Pr} (c : Case k ps) : eqG s (prsD ps) (prsD ps) = .val (.bl true) s := by
  have h := prs_dep ps
  have v : view s (prsD ps) = prsD ps := view_flat rfl
  unfold eqG
  rw [v, if_pos (by omega), prs_deq ps k c]
theorem ne_prs {s : Sto} {k : List Nat} {ps : List Pr} (c : Case k ps) : neG s (prsD ps) (prsD ps) = .val (.bl false) s := by
  have h := prs_dep ps
  have v : view s (prsD ps) = prsD ps := view_flat rfl
  unfold neG
  rw [v, if_pos (by omega), prs_deq ps k c]; rfl
theorem eq_str {s : Sto} {x : List Nat} : eqG s (.str x) (.str x) = .val (.bl true) s := by
  have h : deq (.str x) (.str x) = true := (deq_iff _ _ rfl rfl).mpr rfl
  unfold eqG
  rw [view_flat rfl, if_pos ⟨by simp, by simp⟩, h]
theorem ne_str {s : Sto} {x : List Nat} : neG s (.str x) (.str x) = .val (.bl false) s := by
  have h : deq (.str x) (.str x) = true := (deq_iff _ _ rfl rfl).mpr rfl
  unfold neG
  rw [view_flat rfl, if_pos ⟨by simp, by simp⟩, h]; rfl
section
variable {l e : Nat} {k : List Nat} {ps ps0 : List Pr} {st : List Nat} {E : List D} {s : Sto}
theorem LogS.promises (L : LogS l e k ps st E s) : m_Log_promises [.ob l] s = .val (prsD ps) s := by
  have f : fldF 2 1 (varF 0) [some (.ob l)] s = .val (prsD ps) s := fld_at rfl L.hl rfl
  have h2 : low s.length (prsD ps) = true := rfl
  simp -implicitDefEqProofs [m_Log_promises, fnF, b_Log_promises, N_Log_promises, startD, f, h2]
theorem LogS.states (L : LogS l e k ps st E s) : m_Log_states [.ob l] s = .val (.str st) s := by
  have f : fldF 2 2 (varF 0) [some (.ob l)] s = .val (.str st) s := fld_at rfl L.hl rfl
  simp -implicitDefEqProofs [m_Log_states, fnF, b_Log_states, N_Log_states, startD, f]
theorem LogS.same {l' e' : Nat} {st' : List Nat} {E' : List D} (L : LogS l e k ps st E s) (L' : LogS l' e' k ps st' E' s) (c : Case k ps) : m_LogD__eqD_ [.ob l, .ob l'] s = .val (.bl true) s := by
  have f0 : fldF 2 0 (varF 0) [some (.ob l), some (.ob l')] s = .val (.str k) s := fld_at rfl L.hl rfl
  have f1 : fldF 2 1 (varF 0) [some (.ob l), some (.ob l')] s = .val (prsD ps) s := fld_at rfl L.hl rfl
  have g0 : fldF 2 0 (varF 1) [some (.ob l), some (.ob l')] s = .val (.str k) s := fld_at rfl L'.hl rfl
  have g1 : fldF 2 1 (varF 1) [some (.ob l), some (.ob l')] s = .val (prsD ps) s := fld_at rfl L'.hl rfl
  have hi : isiO 2 (varF 1) [some (.ob l), some (.ob l')] s = .val (.bl true) s := by
    have := L'.hl
    unfold isiO
    simp -implicitDefEqProofs [insB, this, logO]
  have q1 := eq_prs (s := s) c
  have q2 := @eq_str s k
  simp -implicitDefEqProofs [-eqG_def, m_LogD__eqD_, fnF, b_LogD__eqD_, N_LogD__eqD_, startD, f0, f1, g0, g1, hi, q1, q2]
theorem undo_spec (L : LogS l e k ps st (E ++ [prsD ps0]) s) (c : Case k ps0) (g : Good k ps0) : m_Log_undo [.ob l] s = .val .non (putL l e k ps0 (statesR k ps0) E s) := by
  have f3 : fldF 2 3 (varF 0) [some (.ob l)] s = .val (.ob e) s := fld_at rfl L.hl rfl
  have hdp : deps (E ++ [prsD ps0]) ≤ 2 := deps_le fun d hd => by
    obtain ⟨qs, rfl⟩ := L.fl d hd
    exact prs_dep qs
  have hfl : flats (E ++ [prsD ps0]) = true := List.all_eq_true.mpr fun d hd => by
    obtain ⟨qs, rfl⟩ := L.fl d hd; rfl
  have hv : view s (.ob e) = .lst (E ++ [prsD ps0]) := by
    have := L.he
    simp [view, this, hfl]
  have h0 : eqG s (.ob e) (.lst []) = .val (.bl false) s := by
    unfold eqG
    rw [hv, view_flat rfl, if_pos ⟨by simp only [dep]; omega, by simp⟩]
    have hnb : noBl (.lst (E ++ [prsD ps0])) = true := by
      rw [noBl]
      exact noBls_of fun d hd => (L.fl d hd).elim fun qs q => by rw [q]; exact prs_ok' qs
    have : deq (.lst (E ++ [prsD ps0])) (.lst []) = false := Bool.eq_false_iff.mpr fun z => by
      have z2 := (deq_iff (.lst (E ++ [prsD ps0])) (.lst []) hnb (by simp [noBl, noBls])).mp z
      simp at z2
    rw [this]
  have ho : isOwn s (.ob e) = true := by
    have := L.he
    simp [isOwn, this]
  have hpop : pop0G s (.ob e) [] = .val (prsD ps0) (s.set e (.lst E)) := by
    have := L.he
    simp -implicitDefEqProofs [pop0G, this]
  have hl1 : (s.set e (.lst E))[l]? = some (logO k ps st e) := by rw [List.getElem?_set_ne (Ne.symm L.ne)]; exact L.hl
  have fE : lowE E := fun d hd => L.fl d (List.mem_append.mpr (.inl hd))
  have lE : E.length ≤ 1000 := by have := L.le; simp at this; omega
  have L1 : LogS l e k ps st E (s.set e (.lst E)) := ⟨hl1, List.getElem?_set_self L.el, L.ne, fE, lE⟩
  have hcall : methF 2 2 m_Log_become (varF 0) (con (meB' isOwn pop0G (fldF 2 3 (varF 0)) nil) (nil)) [some (.ob l)] s = .val .non (putL l e k ps0 (statesR k ps0) E s) :=
    (meth_at (l := l) (xs := [prsD ps0]) (s1 := s) (s2 := s.set e (.lst E)) rfl L.hl (by simp -implicitDefEqProofs [f3, ho, hpop]) rfl).trans (become_spec L1 c g)
  have hch := chk_put (ps' := ps0) (st' := statesR k ps0) L fE
  have htk : (putL l e k ps0 (statesR k ps0) E s).take s.length = putL l e k ps0 (statesR k ps0) E s := List.take_of_length_le (by rw [putL_len]; exact Nat.le_refl _)
  generalize putL l e k ps0 (statesR k ps0) E s = S at *
  simp -implicitDefEqProofs [-eqG_def, m_Log_undo, fnF, b_Log_undo, N_Log_undo, startD, f3, h0, hcall, hch, htk]
end
end Fl
set_option Elab.async false
set_option linter.all false
set_option maxRecDepth 100000
set_option maxHeartbeats 2000000
namespace Fl
open L2 PySem U
/-! law k17 -/
noncomputable def p17_0 : SF := setS 3 (callF 2 m_law_row (con (varF 1) (con (bin addG (cF (.int 2)) (callF 2 m_law_draw (con (varF 1) (con (cF (.int 7)) (nil))))) (nil))))
noncomputable def p17_1 : SF := setS 4 (callF 2 m_law_masked (con (varF 1) (con (varF 3) (nil))))
noncomputable def p17_2 : SF := setS 5 (fnB tupleG (con (compF (walkF (callF 3 m_law_promises (con (varF 1) (con (varF 3) (con (cF (.int 5)) (nil)))))) [13] (nameG 13) (tst (callF 2 m_law_keeps (con (varF 3) (con (varF 13) (nil))))) (varF 13)) (nil)))
noncomputable def p17_3 : SF := parS 6 7 (con (callF 2 m_law_log (con (varF 4) (con (varF 5) (nil)))) (con (tupE (nil)) (nil)))
noncomputable def p17_4 : SF := forS (rng1F (con (callF 2 m_law_draw (con (varF 1) (con (cF (.int 4)) (nil)))) (nil))) (nameG 8) (l_law_k17_1)
noncomputable def p17_5 : SF := ifS (andT (tst (bin neG (varF 7) (tupE (nil)))) (tst (bin eqG (callF 2 m_law_draw (con (varF 1) (con (cF (.int 4)) (nil)))) (cF (.int 0))))) (seqS (setS 9 (lstE (con (cF .non) (con (tupE (nil)) (con (cF (.str [111, 110])) (con (tupE (con (cF (.str [111, 110])) (con (cF (.int 0)) (con (cF (.int 1)) (nil))))) (con (lstE (con (cF (.str [98, 121])) (con (una negG (cF (.int 1))) (con (cF (.int 1)) (con (cF (.int 0)) (nil)))))) (con (tupE (con (cF (.str [97, 116])) (con (una negG (cF (.int 1))) (con (cF (.int 1)) (con (cF (.int 0)) (nil)))))) (con (cF (.int 5)) (nil)))))))))) (setS 7 (bin addG (slF slG (varF 7) noP (parF (una negG (cF (.int 1))))) (tupE (con (bin ixG (varF 9) (callF 2 m_law_draw (con (varF 1) (con (cF (.int 7)) (nil))))) (nil)))))) (passS)
noncomputable def p17_6 : SF := setS 10 (callF 2 m_are_promises (con (varF 4) (con (bin addG (varF 5) (varF 7)) (nil))))
noncomputable def p17_7 : SF := setS 10 (andE (varF 10) (bin neG (callF 2 m_law_rows (con (varF 4) (con (bin addG (varF 5) (varF 7)) (nil)))) (lstE (nil))))
noncomputable def p17_8 : SF := ifS (notT (tst (callF 2 m_law_like (con (callF 2 m_law_tried (con (varF 6) (con (varF 7) (nil)))) (con (varF 10) (nil)))))) (retS (cF (.bl false))) (passS)
noncomputable def p17_9 : SF := setS 11 (iteE (tst (varF 10)) (bin addG (varF 5) (varF 7)) (varF 5))
noncomputable def p17_10 : SF := ifS (orT (tst (bin neG (propF 2 m_Log_promises (varF 6)) (varF 11))) (orT (tst (bin neG (propF 2 m_Log_states (varF 6)) (callF 2 m_day_states (con (varF 4) (con (varF 11) (nil)))))) (tst (bin (neO 2 m_LogD__eqD_) (varF 6) (callF 2 m_law_log (con (varF 4) (con (varF 11) (nil)))))))) (retS (cF (.bl false))) (passS)
noncomputable def p17_11 : SF := ifS (tst (varF 10)) (seqS (dropS (methF 2 1 m_Log_undo (varF 6) (nil))) (seqS (ifS (orT (tst (bin neG (propF 2 m_Log_promises (varF 6)) (varF 5))) (tst (bin neG (propF 2 m_Log_states (varF 6)) (callF 2 m_day_states (con (varF 4) (con (varF 5) (nil))))))) (retS (cF (.bl false))) (passS)) (seqS (setS 12 (callF 2 m_law_log (con (varF 4) (con (varF 5) (nil))))) (ifS (orT (tst (bin isntG (callF 2 m_law_tried (con (varF 12) (con (revT (varF 7)) (nil)))) (cF (.bl true)))) (tst (bin neG (propF 2 m_Log_states (varF 12)) (callF 2 m_day_states (con (varF 4) (con (varF 11) (nil))))))) (retS (cF (.bl false))) (passS))))) (passS)
theorem p17_eq : l_law_k17_2 = seqS p17_0 (seqS p17_1 (seqS p17_2 (seqS p17_3 (seqS p17_4 (seqS p17_5 (seqS p17_6 (seqS p17_7 (seqS p17_8 (seqS p17_9 (seqS p17_10 (p17_11))))))))))) := rfl
theorem seq_nx {f g : SF} {δ δ1 : Sl} {s s1 : Sto} (h : f δ s = .nx δ1 s1) : seqS f g δ s = g δ1 s1 := by
  unfold seqS; rw [h]; rfl
theorem LogS.dr {l e : Nat} {k : List Nat} {ps : List Pr} {st : List Nat} {E : List D} {s s' : Sto} (L : LogS l e k ps st E s) (d : Dr 0 s s') (h1 : l ≠ 0) (h2 : e ≠ 0) : LogS l e k ps st E s' :=
  ⟨by rw [d.get h1]; exact L.hl, by rw [d.get h2]; exact L.he, L.ne, L.fl, L.le⟩
theorem LogS.app {l e : Nat} {k : List Nat} {ps : List Pr} {st : List Nat} {E : List D} {s j : Sto} (L : LogS l e k ps st E s) : LogS l e k ps st E (s ++ j) :=
  ⟨by rw [List.getElem?_append_left L.ll]; exact L.hl, by rw [List.getElem?_append_left L.el]; exact L.he, L.ne, L.fl, L.le⟩
theorem Tap.putL {l e : Nat} {k : List Nat} {ps : List Pr} {st : List Nat} {E : List D} {s : Sto} (T : Tap 0 s) (h1 : l ≠ 0) (h2 : e ≠ 0) : Tap 0 (putL l e k ps st E s) := (T.set h2).set h1
theorem Tap.madeL {k : List Nat} {ps : List Pr} {st : List Nat} {E : List D} {s : Sto} (T : Tap 0 s) : Tap 0 (madeL k ps st E s) := T.app
theorem k17_first {s : Sto} {a0 a2 a3 a4 a5 a6 a7 a8 a9 a10 a11 a12 a13 : Option D} (T : Tap 0 s) : ∃ r k ps s4, (∀ g : SF, seqS p17_0 (seqS p17_1 (seqS p17_2 g)) [a0, some (.ob 0), a2, a3, a4, a5, a6, a7, a8, a9, a10, a11, a12, a13] s = g [a0, some (.ob 0), a2, some (.str r), some (.str k), some (prsD ps), a6, a7, a8, a9, a10, a11, a12, a13] s4) ∧
    Tap 0 s4 ∧ Case k ps ∧ Fits k ps r ∧ k.length ≤ 8 ∧ 1 ≤ k.length ∧ ps.length ≤ 5 ∧ Row r := by
  obtain ⟨v, s1, e1, d1, u1, w1⟩ := draw (many := 7) T (by omega) (by omega)
  have T1 := T.dr d1
  obtain ⟨r, s2, e2, d2, hrl, hr⟩ := row_spec (n := 2 + v) T1 (by omega) (by omega)
  have T2 := T1.dr d2
  obtain ⟨k, s3, e3, d3, hkl, hkd⟩ := masked_spec T2 (show r.length ≤ 1000 by omega)
  have T3 := T2.dr d3
  obtain ⟨ps0, s4, e4, d4, hps, hpl⟩ := promises_spec5 (most := 5) T3 (show r.length ≤ 90 by omega) (by omega) hr (by omega) (by omega)
  have T4 := T3.dr d4
  have hkn : Kn k := masked_kn hr hkl hkd
  have hlen : (r.length : Int) = 2 + v := by omega
  have comp : ∀ δ : Sl, 13 < δ.length → δ[3]? = some (some (.str r)) → loopC (nameG 13) (tst (callF 2 m_law_keeps (con (varF 3) (con (varF 13) (nil))))) (varF 13) δ (ps0.map Pr.d) [] s4 = .val ((ps0.filter (keepsP r)).map Pr.d) s4 := fun δ h0 h3 =>
    keepG h0 (by decide) h3 (by omega) hr (fun p hp => ⟨(hps p hp).1.kd, by have := (hps p hp).1.se; have := (hps p hp).1.en; omega⟩) (by omega)
  have hpsub : ∀ p ∈ ps0.filter (keepsP r), p ∈ ps0 ∧ keepsP r p = true := fun p hp => List.mem_filter.mp hp
  have hplen : (ps0.filter (keepsP r)).length ≤ 5 := Nat.le_trans (List.length_filter_le _ _) (by omega)
  generalize ps0.filter (keepsP r) = ps at hpsub hplen comp
  have c : Case k ps := ⟨hkn, by omega, fun p hp => by rw [hkl]; exact (hps p (hpsub p hp).1).1⟩
  have f : Fits k ps r := ⟨hr, hkl.symm, fun d hd => hkd d (by omega), fun p hp => (hpsub p hp).2⟩
  refine ⟨r, k, ps, s4, fun g => ?_, T4, c, f, by omega, by omega, hplen, hr⟩
  have q0 : p17_0 [a0, some (.ob 0), a2, a3, a4, a5, a6, a7, a8, a9, a10, a11, a12, a13] s = .nx [a0, some (.ob 0), a2, some (.str r), a4, a5, a6, a7, a8, a9, a10, a11, a12, a13] s2 := by
    simp -implicitDefEqProofs [p17_0, e1, e2]
  have q1 : p17_1 [a0, some (.ob 0), a2, some (.str r), a4, a5, a6, a7, a8, a9, a10, a11, a12, a13] s2 = .nx [a0, some (.ob 0), a2, some (.str r), some (.str k), a5, a6, a7, a8, a9, a10, a11, a12, a13] s3 := by
    simp -implicitDefEqProofs [p17_1, e3]
  have q2 : p17_2 [a0, some (.ob 0), a2, some (.str r), some (.str k), a5, a6, a7, a8, a9, a10, a11, a12, a13] s3 = .nx [a0, some (.ob 0), a2, some (.str r), some (.str k), some (prsD ps), a6, a7, a8, a9, a10, a11, a12, a13] s4 := by
    unfold prsD
    generalize ps.map Pr.d = zs at *
    simp -implicitDefEqProofs [p17_2, e4, wipeD, comp, tupleG]
  rw [seq_nx q0, seq_nx q1, seq_nx q2]
theorem k17_some {s : Sto} {r : List Nat} {x0 k0 f0 lg a2 a8 a9 a10 a11 a12 a13 : Option D} (T : Tap 0 s) (hr : Row r) (h1 : 1 ≤ r.length) (hl : r.length ≤ 90) :
    ∃ qs s' b8, p17_4 [x0, some (.ob 0), a2, some (.str r), k0, f0, lg, some (.tup []), a8, a9, a10, a11, a12, a13] s = .nx [x0, some (.ob 0), a2, some (.str r), k0, f0, lg, some (prsD qs), b8, a9, a10, a11, a12, a13] s' ∧ Dr 0 s s' ∧ (∀ p ∈ qs, p.ok r.length) ∧ qs.length ≤ 3 := by
  obtain ⟨v, s1, e1, d1, v0, v1⟩ := draw (many := 4) T (by omega) (by omega)
  have T1 := T.dr d1
  obtain ⟨δ', s', e2, ps, o, rfl, d2, hp, hl2⟩ := loop_inv (g := nameG 8) (body := l_law_k17_1) (xs := upI 0 v.toNat)
    (fun i δ s' => ∃ (ps : List Pr) (o : Option D), δ = [x0, some (.ob 0), a2, some (.str r), k0, f0, lg, some (prsD ps), o, a9, a10, a11, a12, a13] ∧ Dr 0 s1 s' ∧ (∀ p ∈ ps, p.ok r.length) ∧ ps.length = i)
    (fun i x δ s' hx hI => by
      obtain ⟨ps, o, rfl, d, hp, hl2⟩ := hI
      obtain ⟨rfl, hi⟩ := upI_get hx
      obtain ⟨p, s2, e, d', ok⟩ := promise_spec (T1.dr d) hl h1 hr
      have hb : (ps.map Pr.d).length + [Pr.d p].length ≤ 16000000 := by simp; omega
      refine ⟨_, s2, ?_, ps ++ [p], some (.int (0 + (i : Int))), rfl, d.trans d', fun q hq => ?_, by simp [hl2]⟩
      · simp -implicitDefEqProofs [turn, l_law_k17_1, prsD, e, addG_tup hb, show flat (Pr.d p) = true from rfl]
      · rcases List.mem_append.mp hq with z | z
        · exact hp q z
        · rw [List.mem_singleton.mp z]; exact ok)
    (δ := [x0, some (.ob 0), a2, some (.str r), k0, f0, lg, some (.tup []), a8, a9, a10, a11, a12, a13]) (s := s1) ⟨[], a8, rfl, T1.refl, ⟨fun _ z => (by simp at z), rfl⟩⟩
  rw [upI_len] at hl2
  refine ⟨ps, s', o, ?_, d1.trans d2, hp, by omega⟩
  simp -implicitDefEqProofs [p17_4, e1, sm_of (show -(2 ^ 60) ≤ v by omega) (by omega), e2]
def odds : List D := [.non, .tup [], .str [111, 110], .tup [.str [111, 110], .int 0, .int 1], .lst [.str [98, 121], .int (-1), .int 1, .int 0], .tup [.str [97, 116], .int (-1), .int 1, .int 0], .int 5]
theorem ne_tup0 {s : Sto} {qs : List Pr} : neG s (prsD qs) (.tup []) = .val (.bl (!qs.isEmpty)) s := by
  have h := prs_dep qs
  unfold neG
  rw [view_flat rfl, view_flat rfl, if_pos ⟨by omega, by simp⟩]
  cases qs with
  | nil =>
    have : deq (prsD []) (.tup []) = true := (deq_iff _ _ (prs_ok' []) (by simp [noBl, noBls])).mpr rfl
    rw [this]; rfl
  | cons q qs =>
    have : deq (prsD (q :: qs)) (.tup []) = false := Bool.eq_false_iff.mpr fun z => by
      have z2 := (deq_iff _ _ (prs_ok' (q :: qs)) (by simp [noBl, noBls])).mp z
      simp [prsD] at z2
    rw [this]; rfl
theorem cut_le {α : Type} (xs : List α) (lo hi : Option Int) : (cutD xs lo hi).length ≤ xs.length := by
  unfold cutD
  rw [List.length_take, List.length_drop]
  omega
theorem cut_last (qs : List Pr) : (cutD (qs.map Pr.d) none (some (-1))).length ≤ qs.length - 1 := by
  unfold cutD
  rw [List.length_take, List.length_drop, List.length_map]
  have h : ((-1 : Int) < 0) := by decide
  simp only [HT.sIx, if_pos h]
  omega
theorem k17_odd {s : Sto} {qs : List Pr} {n : Nat} {x0 a2 a3 k0 f0 lg a8 a9 a10 a11 a12 a13 : Option D} (T : Tap 0 s) (hq : ∀ p ∈ qs, p.ok n) (hl : qs.length ≤ 3) :
    ∃ ds s' b9, p17_5 [x0, some (.ob 0), a2, a3, k0, f0, lg, some (prsD qs), a8, a9, a10, a11, a12, a13] s = .nx [x0, some (.ob 0), a2, a3, k0, f0, lg, some (.tup ds), a8, b9, a10, a11, a12, a13] s' ∧ Dr 0 s s' ∧ (∀ d ∈ ds, gd 100 6 d = true) ∧ ds.length ≤ 3 := by
  have hg : ∀ d ∈ qs.map Pr.d, gd 100 6 d = true := fun d hd => by
    obtain ⟨p, hp, rfl⟩ := List.mem_map.mp hd
    exact prd_gd (hq p hp)
  have hne := @ne_tup0 s qs
  cases hqs : qs.isEmpty with
  | true =>
    rw [hqs] at hne
    refine ⟨qs.map Pr.d, s, a9, ?_, T.refl, hg, by simpa using hl⟩
    have hne' : neG s (prsD qs) (.tup []) = .val (.bl false) s := hne
    show _ = OS.nx [x0, some (.ob 0), a2, a3, k0, f0, lg, some (prsD qs), a8, a9, a10, a11, a12, a13] s
    simp -implicitDefEqProofs [-neG_def, p17_5, hne']
  | false =>
    rw [hqs] at hne
    have hne' : neG s (prsD qs) (.tup []) = .val (.bl true) s := hne
    obtain ⟨v, s1, e1, d1, v0, v1⟩ := draw (many := 4) T (by omega) (by omega)
    have T1 := T.dr d1
    by_cases hv : v = 0
    · subst hv
      obtain ⟨w, s2, e2, d2, w0, w1⟩ := draw (many := 7) T1 (by omega) (by omega)
      obtain ⟨j, rfl⟩ := Int.eq_ofNat_of_zero_le w0
      have hj : j < 7 := by omega
      obtain ⟨x, hx, hxg⟩ : ∃ x, odds[j]? = some x ∧ gd 100 6 x = true := by
        refine ⟨odds[j]'hj, List.getElem?_eq_getElem hj, ?_⟩
        have : ∀ x ∈ odds, gd 100 6 x = true := by decide +kernel
        exact this _ (List.getElem_mem hj)
      have hix : ixG s2 (.lst odds) (.int (j : Int)) = .val x s2 := ixG_lst (atI_nat hx)
      have hcut : (cutD (qs.map Pr.d) none (some (-1))).length + [x].length ≤ 16000000 := by
        have := cut_le (qs.map Pr.d) none (some (-1))
        simp at this ⊢; omega
      refine ⟨cutD (qs.map Pr.d) none (some (-1)) ++ [x], s2, some (.lst odds), ?_, d1.trans d2, fun d hd => ?_, ?_⟩
      · unfold prsD at *
        have hfx := gd_flat hxg
        have hcg : ∀ s, slG s (.tup (qs.map Pr.d)) none (some (-1)) = .val (.tup (cutD (qs.map Pr.d) none (some (-1)))) s := fun s => slG_tup
        have hfo : flats odds = true := by decide +kernel
        have hf1 : flats [x] = true := by simp [flats, hfx]
        have hf2 : flats [D.str [111, 110], D.int 0, D.int 1] = true := rfl
        have hf3 : flats [D.str [98, 121], D.int (-1), D.int 1, D.int 0] = true := rfl
        have hf4 : flats [D.str [97, 116], D.int (-1), D.int 1, D.int 0] = true := rfl
        have hf5 : flats [] = true := rfl
        unfold odds at *
        generalize cutD (qs.map Pr.d) none (some (-1)) = zs at *
        generalize qs.map Pr.d = ys at *
        simp -implicitDefEqProofs [-neG_def, p17_5, hne', e1, e2, hix, hf1, hf2, hf3, hf4, hf5, hfo, hcg, addG_tup hcut]
      · rcases List.mem_append.mp hd with z | z
        · unfold cutD at z
          exact hg d (List.mem_of_mem_drop (List.mem_of_mem_take z))
        · rw [List.mem_singleton.mp z]; exact hxg
      · have := cut_last qs
        simp; rw [Bool.eq_false_iff] at hqs
        omega
    · refine ⟨qs.map Pr.d, s1, a9, ?_, d1, hg, by simpa using hl⟩
      show _ = OS.nx [x0, some (.ob 0), a2, a3, k0, f0, lg, some (prsD qs), a8, a9, a10, a11, a12, a13] s1
      have hv' : (v == 0) = false := by simpa using hv
      simp -implicitDefEqProofs [-neG_def, p17_5, hne', e1, hv']
theorem proms_of {n : Nat} : ∀ {ds : List D}, (∀ d ∈ ds, promB (n : Int) d = true) → ∃ qs : List Pr, ds = qs.map Pr.d ∧ ∀ q ∈ qs, q.ok n
  | [], _ => ⟨[], rfl, fun q hq => nomatch hq⟩
  | d :: ds, h => by
    obtain ⟨q, rfl, ok⟩ := prom_of (h d (List.mem_cons_self ..))
    obtain ⟨qs, rfl, oks⟩ := proms_of fun x hx => h x (List.mem_cons_of_mem _ hx)
    exact ⟨q :: qs, rfl, fun x hx => by
      rcases List.mem_cons.mp hx with rfl | z
      · exact ok
      · exact oks x z⟩
theorem k17_good {s : Sto} {k : List Nat} {ps : List Pr} {ds : List D} {x0 x1 a2 a3 lg a8 a9 a10 a11 a12 a13 : Option D} (c : Case k ps) (hg : ∀ d ∈ ds, gd 100 6 d = true) (hl : ds.length ≤ 3) (h5 : ps.length ≤ 5) (hk : k.length ≤ 8) :
    ∃ b, (∀ g : SF, seqS p17_6 (seqS p17_7 g) [x0, x1, a2, a3, some (.str k), some (prsD ps), lg, some (.tup ds), a8, a9, a10, a11, a12, a13] s = g [x0, x1, a2, a3, some (.str k), some (prsD ps), lg, some (.tup ds), a8, a9, some (.bl b), a11, a12, a13] s) ∧
      ((b = true ∧ ∃ qs, Fine k ps ds qs) ∨ (b = false ∧ ∀ qs, ¬ Fine k ps ds qs)) := by
  have hz : gd 100 7 (.tup (ps.map Pr.d ++ ds)) = true := by
    rw [show (7 : Nat) = 6 + 1 from rfl, gd_tup]
    refine ⟨by simp; omega, fun d hd => ?_⟩
    rcases List.mem_append.mp hd with z | z
    · obtain ⟨p, hp, rfl⟩ := List.mem_map.mp z
      exact prd_gd (c.ok p hp)
    · exact hg d z
  have har := are_promises_spec (s := s) (kn := k) hz (by omega) (by omega)
  have hadd : ∀ s, addG s (prsD ps) (.tup ds) = .val (.tup (ps.map Pr.d ++ ds)) s := fun s => addG_tup (by simp; omega)
  have q6 : p17_6 [x0, x1, a2, a3, some (.str k), some (prsD ps), lg, some (.tup ds), a8, a9, a10, a11, a12, a13] s = .nx [x0, x1, a2, a3, some (.str k), some (prsD ps), lg, some (.tup ds), a8, a9, some (.bl (promsB (k.length : Int) (.tup (ps.map Pr.d ++ ds)))), a11, a12, a13] s := by
    generalize ps.map Pr.d ++ ds = zs at *
    simp -implicitDefEqProofs [p17_6, hadd, har]
  have hB : promsB (k.length : Int) (.tup (ps.map Pr.d ++ ds)) = true ↔ (ps.map Pr.d ++ ds).length ≤ 6 ∧ ∀ d ∈ ps.map Pr.d ++ ds, promB (k.length : Int) d = true := by
    simp only [promsB, Bool.and_eq_true, decide_eq_true_eq, List.all_eq_true]
  by_cases hp : promsB (k.length : Int) (.tup (ps.map Pr.d ++ ds)) = true
  · obtain ⟨h6, hall⟩ := hB.mp hp
    obtain ⟨qs, rfl, oks⟩ := proms_of (n := k.length) fun d hd => hall d (List.mem_append.mpr (.inr hd))
    have c2 := case_app c oks
    have h6' : (ps ++ qs).length ≤ 6 := by simpa using h6
    have hr := rows_spec (s := s) c2 (by omega) (by omega)
    have hne := @ne_nil s (strsL (rowsR k (ps ++ qs))) (by have := strs_deps (rowsR k (ps ++ qs)); omega)
    have hempty : (strsL (rowsR k (ps ++ qs))).isEmpty = (rowsR k (ps ++ qs)).isEmpty := by
      cases rowsR k (ps ++ qs) <;> rfl
    rw [hempty] at hne
    rw [List.map_append] at hr
    refine ⟨!(rowsR k (ps ++ qs)).isEmpty, fun g => ?_, ?_⟩
    · rw [seq_nx q6, hp]
      refine seq_nx ?_
      generalize ps.map Pr.d ++ qs.map Pr.d = zs at *
      generalize strsL (rowsR k (ps ++ qs)) = ys at *
      simp -implicitDefEqProofs [-neG_def, p17_7, hadd, hr, hne]
    · by_cases g : Good k (ps ++ qs)
      · left
        refine ⟨?_, qs, rfl, oks, h6', g⟩
        obtain ⟨r, f⟩ := (good_iff c2).mp g
        have hm := (rows_mem c.kn r).mpr f
        cases hrr : rowsR k (ps ++ qs) with
        | nil => rw [hrr] at hm; cases hm
        | cons a l => rfl
      · right
        refine ⟨?_, fun qs' f => ?_⟩
        · cases hrr : rowsR k (ps ++ qs) with
          | nil => rfl
          | cons a l =>
            exfalso
            exact g ((good_iff c2).mpr ⟨a, (rows_mem c.kn a).mp (by rw [hrr]; exact List.mem_cons_self ..)⟩)
        · obtain ⟨f1, f2, f3, f4⟩ := f
          have : qs = qs' := by
            clear hr hne hempty c2 h6' h6 hall oks hp hB q6 hadd har hz hg hl g f2 f3 f4
            induction qs generalizing qs' with
            | nil => cases qs' with
              | nil => rfl
              | cons _ _ => cases f1
            | cons q qs ih => cases qs' with
              | nil => cases f1
              | cons q' qs' =>
                simp only [List.map_cons, List.cons.injEq] at f1
                rw [prd_inj f1.1, ih qs' f1.2]
          subst this
          exact g f4
  · have hp' : promsB (k.length : Int) (.tup (ps.map Pr.d ++ ds)) = false := by simpa using hp
    refine ⟨false, fun g => ?_, .inr ⟨rfl, fun qs f => ?_⟩⟩
    · rw [seq_nx q6, hp']
      refine seq_nx ?_
      simp -implicitDefEqProofs [p17_7]
    · obtain ⟨rfl, f2, f3, f4⟩ := f
      refine hp (hB.mpr ⟨by simpa using f3, fun d hd => ?_⟩)
      rcases List.mem_append.mp hd with z | z
      · obtain ⟨p, hpp, rfl⟩ := List.mem_map.mp z
        exact prom_ok (c.ok p hpp)
      · obtain ⟨p, hpp, rfl⟩ := List.mem_map.mp z
        exact prom_ok (f2 p hpp)
theorem like_bl {b : Bool} {s : Sto} : m_law_like [.bl b, .bl b] s = .val (.bl true) s := like_same 4 (.bl b) (.bl b) (.bl b) s rfl (by simp) (by omega) rfl rfl
theorem days_at {k : List Nat} {ps : List Pr} {s : Sto} (c : Case k ps) (g : Good k ps) : m_day_states [.str k, prsD ps] s = .val (.str (statesR k ps)) s := by
  have h := states_spec (s := s) c
  rw [goodB_iff.mpr g, if_pos rfl] at h
  exact h
/-- the log against a second one -/
theorem k17_same {l e : Nat} {k : List Nat} {now : List Pr} {E : List D} {S : Sto} {x0 x1 a2 a3 a5 a7 a8 a9 a10 a12 a13 : Option D} (L : LogS l e k now (statesR k now) E S) (c : Case k now) (g : Good k now) (h1 : 1 ≤ k.length) (h2 : k.length ≤ 31) (h6 : now.length ≤ 6) :
    p17_10 [x0, x1, a2, a3, some (.str k), a5, some (.ob l), a7, a8, a9, a10, some (prsD now), a12, a13] S = .nx [x0, x1, a2, a3, some (.str k), a5, some (.ob l), a7, a8, a9, a10, some (prsD now), a12, a13] (madeL k now (statesR k now) (befores now) S) := by
  have f1 : propF 2 m_Log_promises (varF 6) [x0, x1, a2, a3, some (.str k), a5, some (.ob l), a7, a8, a9, a10, some (prsD now), a12, a13] S = .val (prsD now) S := by
    rw [prop_at (l := l) (s1 := S) rfl L.hl, L.promises]; rfl
  have f2 : propF 2 m_Log_states (varF 6) [x0, x1, a2, a3, some (.str k), a5, some (.ob l), a7, a8, a9, a10, some (prsD now), a12, a13] S = .val (.str (statesR k now)) S := by
    rw [prop_at (l := l) (s1 := S) rfl L.hl, L.states]; rfl
  have hd := days_at (s := S) c g
  have n1 := ne_prs (s := S) c
  have n2 := @ne_str S (statesR k now)
  have hlog := log_spec (s := S) c g h1 h2 h6
  have L1 : LogS l e k now (statesR k now) E (madeL k now (statesR k now) (befores now) S) := L.app
  have L2' := madeL_at (s := S) (k := k) (ps := now) (st := statesR k now) (befores_low now) (by rw [befores_len]; omega)
  have heq := L1.same L2' c
  have hne : neO 2 m_LogD__eqD_ (madeL k now (statesR k now) (befores now) S) (.ob l) (.ob S.length) = .val (.bl false) (madeL k now (statesR k now) (befores now) S) := by
    unfold neO
    rw [if_pos ⟨by have := L1.hl; simp [insB, this, logO], by have := L2'.hl; simp [insB, this, logO]⟩, heq]; rfl
  generalize madeL k now (statesR k now) (befores now) S = S2 at *
  generalize statesR k now = st at *
  simp -implicitDefEqProofs [-neG_def, p17_10, f1, f2, hd, n1, n2, hlog, hne]
theorem fine_rev {k : List Nat} {ps : List Pr} {ds : List D} {qs : List Pr} (c : Case k ps) (f : Fine k ps ds qs) : Fine k ps ds.reverse qs.reverse := by
  obtain ⟨rfl, f2, f3, f4⟩ := f
  exact ⟨by rw [List.map_reverse], fun q hq => f2 q (List.mem_reverse.mp hq), by simpa using f3, good_sub (fun q hq => by simpa using hq) (case_app c f2) f4⟩
theorem fine_one {k : List Nat} {ps : List Pr} {ds : List D} {qs qs' : List Pr} (f : Fine k ps ds qs) (f' : Fine k ps ds qs') : qs = qs' := by
  have f1 := f.1
  have f2 := f'.1
  rw [f1] at f2
  clear f1 f f'
  induction qs generalizing qs' with
  | nil => cases qs' with
    | nil => rfl
    | cons _ _ => cases f2
  | cons q qs ih => cases qs' with
    | nil => cases f2
    | cons q' qs' =>
      simp only [List.map_cons, List.cons.injEq] at f2
      rw [prd_inj f2.1, ih f2.2]
theorem k17_last {l : Nat} {k : List Nat} {ps qs : List Pr} {ds : List D} {S : Sto} {x0 a2 a3 a8 a9 a12 a13 : Option D} (T : Tap 0 S) (l0 : l ≠ 0) (L : LogS l (l + 1) k (ps ++ qs) (statesR k (ps ++ qs)) (befores ps ++ [prsD ps]) S) (c : Case k ps) (g : Good k ps) (f : Fine k ps ds qs) (h1 : 1 ≤ k.length) (h2 : k.length ≤ 31)
    (h5 : ps.length ≤ 5) (hg : ∀ d ∈ ds, gd 100 6 d = true) (hl : ds.length ≤ 3) :
    ∃ δ2 s2, p17_11 [x0, some (.ob 0), a2, a3, some (.str k), some (prsD ps), some (.ob l), some (.tup ds), a8, a9, some (.bl true), some (prsD (ps ++ qs)), a12, a13] S = .nx δ2 s2 ∧ Inv 14 δ2 s2 := by
  have c2 := case_app c f.2.1
  have g2 := f.2.2.2
  have hun := undo_spec L c g
  have L1 : LogS l (l + 1) k ps (statesR k ps) (befores ps) (putL l (l + 1) k ps (statesR k ps) (befores ps) S) := L.put (befores_low ps) (by rw [befores_len]; omega)
  have T1 : Tap 0 (putL l (l + 1) k ps (statesR k ps) (befores ps) S) := T.putL l0 (by omega)
  have m1 : methF 2 1 m_Log_undo (varF 6) (nil) [x0, some (.ob 0), a2, a3, some (.str k), some (prsD ps), some (.ob l), some (.tup ds), a8, a9, some (.bl true), some (prsD (ps ++ qs)), a12, a13] S = .val .non (putL l (l + 1) k ps (statesR k ps) (befores ps) S) :=
    (meth_at (l := l) (xs := []) rfl L.hl rfl rfl).trans hun
  generalize putL l (l + 1) k ps (statesR k ps) (befores ps) S = S1 at *
  have f1 : propF 2 m_Log_promises (varF 6) [x0, some (.ob 0), a2, a3, some (.str k), some (prsD ps), some (.ob l), some (.tup ds), a8, a9, some (.bl true), some (prsD (ps ++ qs)), a12, a13] S1 = .val (prsD ps) S1 := by
    rw [prop_at (l := l) (s1 := S1) rfl L1.hl, L1.promises]; rfl
  have f2 : propF 2 m_Log_states (varF 6) [x0, some (.ob 0), a2, a3, some (.str k), some (prsD ps), some (.ob l), some (.tup ds), a8, a9, some (.bl true), some (prsD (ps ++ qs)), a12, a13] S1 = .val (.str (statesR k ps)) S1 := by
    rw [prop_at (l := l) (s1 := S1) rfl L1.hl, L1.states]; rfl
  have hd := days_at (s := S1) c g
  have n1 := ne_prs (s := S1) c
  have n2 := @ne_str S1 (statesR k ps)
  have hlog := log_spec (s := S1) c g h1 h2 (show ps.length ≤ 6 by omega)
  have L2' := madeL_at (s := S1) (k := k) (ps := ps) (st := statesR k ps) (befores_low ps) (by rw [befores_len]; omega)
  have T2 : Tap 0 (madeL k ps (statesR k ps) (befores ps) S1) := T1.madeL
  have s0 : S1.length ≠ 0 := by
    have := T1.lt; omega
  have fr := fine_rev c f
  rcases tried_spec L2' (by rw [befores_len]; omega) (ds := ds.reverse) (fun d hd => hg d (List.mem_reverse.mp hd)) (by simpa using hl) c g (by omega) with ⟨qs', f', ht⟩ | ⟨nf, _⟩
  · have hq := fine_one fr f'
    subst hq
    have L3 := L2'.put (ps' := ps ++ qs.reverse) (st' := statesR k (ps ++ qs.reverse)) (E' := befores ps ++ [prsD ps]) (fun d hd => by
      rcases List.mem_append.mp hd with z | z
      · exact befores_low ps d z
      · exact ⟨ps, List.mem_singleton.mp z⟩) (by simp [befores_len]; omega)
    have hst : statesR k (ps ++ qs.reverse) = statesR k (ps ++ qs) := states_same (case_app c f'.2.1) f'.2.2.2 c2 fun r => fits_mem (fun p => by simp) r
    rw [hst] at ht L3
    have T3 := T2.putL (l := S1.length) (e := S1.length + 1) (k := k) (ps := ps ++ qs.reverse) (st := statesR k (ps ++ qs)) (E := befores ps ++ [prsD ps]) s0 (by omega)
    generalize hS2 : madeL k ps (statesR k ps) (befores ps) S1 = S2 at *
    generalize putL S1.length (S1.length + 1) k (ps ++ qs.reverse) (statesR k (ps ++ qs)) (befores ps ++ [prsD ps]) S2 = S3 at *
    have f3 : propF 2 m_Log_states (varF 12) [x0, some (.ob 0), a2, a3, some (.str k), some (prsD ps), some (.ob l), some (.tup ds), a8, a9, some (.bl true), some (prsD (ps ++ qs)), some (.ob S1.length), a13] S3 = .val (.str (statesR k (ps ++ qs))) S3 := by
      rw [prop_at (l := S1.length) (s1 := S3) rfl L3.hl, L3.states]; rfl
    have hd3 := days_at (s := S3) c2 g2
    have n3 := @ne_str S3 (statesR k (ps ++ qs))
    have hrev : revT (varF 7) [x0, some (.ob 0), a2, a3, some (.str k), some (prsD ps), some (.ob l), some (.tup ds), a8, a9, some (.bl true), some (prsD (ps ++ qs)), some (.ob S1.length), a13] S2 = .val (.tup ds.reverse) S2 := rfl
    generalize statesR k (ps ++ qs) = st3 at *
    generalize statesR k ps = st4 at *
    refine ⟨[x0, some (.ob 0), a2, a3, some (.str k), some (prsD ps), some (.ob l), some (.tup ds), a8, a9, some (.bl true), some (prsD (ps ++ qs)), some (.ob S1.length), a13], S3, ?_, rfl, rfl, T3⟩
    simp -implicitDefEqProofs [-neG_def, p17_11, m1, f1, f2, hd, n1, n2, hlog, hrev, ht, f3, hd3, n3]
  · exact absurd fr (nf _)
theorem k17_body {s : Sto} {a0 a2 a3 a4 a5 a6 a7 a8 a9 a10 a11 a12 a13 : Option D} (T : Tap 0 s) :
    ∃ δ2 s2, l_law_k17_2 [a0, some (.ob 0), a2, a3, a4, a5, a6, a7, a8, a9, a10, a11, a12, a13] s = .nx δ2 s2 ∧ Inv 14 δ2 s2 := by
  rw [p17_eq]
  obtain ⟨r, k, ps, s4, e0, T4, c, fr, hk, h1, h5, hr⟩ := k17_first (a0 := a0) (a2 := a2) (a3 := a3) (a4 := a4) (a5 := a5) (a6 := a6) (a7 := a7) (a8 := a8) (a9 := a9) (a10 := a10) (a11 := a11) (a12 := a12) (a13 := a13) T
  rw [e0]
  have g : Good k ps := fr.good c
  have hlog := log_spec (s := s4) c g h1 (by omega) (show ps.length ≤ 6 by omega)
  have L5 := madeL_at (s := s4) (k := k) (ps := ps) (st := statesR k ps) (befores_low ps) (by rw [befores_len]; omega)
  have T5 : Tap 0 (madeL k ps (statesR k ps) (befores ps) s4) := T4.madeL
  have s0 : s4.length ≠ 0 := by have := T4.lt; omega
  have q3 : p17_3 [a0, some (.ob 0), a2, some (.str r), some (.str k), some (prsD ps), a6, a7, a8, a9, a10, a11, a12, a13] s4 = .nx [a0, some (.ob 0), a2, some (.str r), some (.str k), some (prsD ps), some (.ob s4.length), some (.tup []), a8, a9, a10, a11, a12, a13] (madeL k ps (statesR k ps) (befores ps) s4) := by
    generalize madeL k ps (statesR k ps) (befores ps) s4 = S at *
    simp -implicitDefEqProofs [p17_3, hlog]
  rw [seq_nx q3]
  generalize madeL k ps (statesR k ps) (befores ps) s4 = S5 at *
  generalize s4.length = l at *
  have hrl := fr.len
  obtain ⟨qs0, S6, b8, q4, d6, hq0, hl0⟩ := k17_some (x0 := a0) (a2 := a2) (k0 := some (.str k)) (f0 := some (prsD ps)) (lg := some (.ob l)) (a8 := a8) (a9 := a9) (a10 := a10) (a11 := a11) (a12 := a12) (a13 := a13) T5 hr (by omega) (show r.length ≤ 90 by omega)
  rw [seq_nx q4]
  have T6 := T5.dr d6
  obtain ⟨ds, S7, b9, q5, d7, hg, hl⟩ := k17_odd (x0 := a0) (a2 := a2) (a3 := some (.str r)) (k0 := some (.str k)) (f0 := some (prsD ps)) (lg := some (.ob l)) (a8 := b8) (a9 := a9) (a10 := a10) (a11 := a11) (a12 := a12) (a13 := a13) T6 hq0 hl0
  rw [seq_nx q5]
  have T7 := T6.dr d7
  have L7 := (L5.dr d6 s0 (by omega)).dr d7 s0 (by omega)
  obtain ⟨b, q67, hb⟩ := k17_good (s := S7) (x0 := a0) (x1 := some (.ob 0)) (a2 := a2) (a3 := some (.str r)) (lg := some (.ob l)) (a8 := b8) (a9 := b9) (a10 := a10) (a11 := a11) (a12 := a12) (a13 := a13) c hg hl h5 hk
  rw [q67]
  have hlike := fun b s => @like_bl b s
  rcases hb with ⟨rfl, qs, f⟩ | ⟨rfl, nf⟩
  · rcases tried_spec L7 (by rw [befores_len]; omega) hg hl c g (by omega) with ⟨qs', f', ht⟩ | ⟨nf, _⟩
    · have hq := fine_one f f'
      subst hq
      have L8 := L7.put (ps' := ps ++ qs) (st' := statesR k (ps ++ qs)) (E' := befores ps ++ [prsD ps]) (fun d hd => by
        rcases List.mem_append.mp hd with z | z
        · exact befores_low ps d z
        · exact ⟨ps, List.mem_singleton.mp z⟩) (by simp [befores_len]; omega)
      have T8 := T7.putL (l := l) (e := l + 1) (k := k) (ps := ps ++ qs) (st := statesR k (ps ++ qs)) (E := befores ps ++ [prsD ps]) s0 (by omega)
      generalize putL l (l + 1) k (ps ++ qs) (statesR k (ps ++ qs)) (befores ps ++ [prsD ps]) S7 = S8 at *
      have q8 : p17_8 [a0, some (.ob 0), a2, some (.str r), some (.str k), some (prsD ps), some (.ob l), some (.tup ds), b8, b9, some (.bl true), a11, a12, a13] S7 = .nx [a0, some (.ob 0), a2, some (.str r), some (.str k), some (prsD ps), some (.ob l), some (.tup ds), b8, b9, some (.bl true), a11, a12, a13] S8 := by
        simp -implicitDefEqProofs [p17_8, ht, hlike]
      rw [seq_nx q8]
      have hadd : ∀ s, addG s (prsD ps) (.tup ds) = .val (prsD (ps ++ qs)) s := fun s => by
        rw [f.1]
        unfold prsD
        rw [List.map_append]
        exact addG_tup (by have := f.2.2.1; simp at this ⊢; omega)
      have q9 : p17_9 [a0, some (.ob 0), a2, some (.str r), some (.str k), some (prsD ps), some (.ob l), some (.tup ds), b8, b9, some (.bl true), a11, a12, a13] S8 = .nx [a0, some (.ob 0), a2, some (.str r), some (.str k), some (prsD ps), some (.ob l), some (.tup ds), b8, b9, some (.bl true), some (prsD (ps ++ qs)), a12, a13] S8 := by
        simp -implicitDefEqProofs [p17_9, hadd]
      rw [seq_nx q9, seq_nx (k17_same L8 (case_app c f.2.1) f.2.2.2 h1 (by omega) f.2.2.1)]
      exact k17_last T8.madeL s0 L8.app c g f h1 (by omega) h5 hg hl
    · exact absurd f (nf _)
  · rcases tried_spec L7 (by rw [befores_len]; omega) hg hl c g (by omega) with ⟨qs', f', ht⟩ | ⟨_, ht⟩
    · exact absurd f' (nf _)
    · have q8 : p17_8 [a0, some (.ob 0), a2, some (.str r), some (.str k), some (prsD ps), some (.ob l), some (.tup ds), b8, b9, some (.bl false), a11, a12, a13] S7 = .nx [a0, some (.ob 0), a2, some (.str r), some (.str k), some (prsD ps), some (.ob l), some (.tup ds), b8, b9, some (.bl false), a11, a12, a13] S7 := by
        simp -implicitDefEqProofs [p17_8, ht, hlike]
      have q9 : p17_9 [a0, some (.ob 0), a2, some (.str r), some (.str k), some (prsD ps), some (.ob l), some (.tup ds), b8, b9, some (.bl false), a11, a12, a13] S7 = .nx [a0, some (.ob 0), a2, some (.str r), some (.str k), some (prsD ps), some (.ob l), some (.tup ds), b8, b9, some (.bl false), some (prsD ps), a12, a13] S7 := by
        simp -implicitDefEqProofs [p17_9]
      rw [seq_nx q8, seq_nx q9, seq_nx (k17_same L7 c g h1 (by omega) (by omega))]
      exact ⟨_, _, rfl, rfl, rfl, T7.madeL⟩
theorem law_k17_true (ns : List Int) (hn : ns.length ≤ 63) : ∃ s, m_law_k17 [.scr ns] [] = .val (.bl true) s := by
  refine law_turns (N := N_law_k17) (n := 14) (m := 5) (body := l_law_k17_2) (ret := retS (cF (.bl true))) rfl (by omega) (by omega) (fun x δ s I => ?_) (fun δ s I => ⟨s, rfl⟩) ns
  obtain ⟨hl, h1, T⟩ := I
  match δ, hl, h1 with
  | [a0, b1, a2, a3, a4, a5, a6, a7, a8, a9, a10, a11, a12, a13], _, h1 =>
    obtain rfl : b1 = some (.ob 0) := by simpa using h1
    obtain ⟨δ2, s2, e, I2⟩ := k17_body (a0 := a0) (a2 := some x) (a3 := a3) (a4 := a4) (a5 := a5) (a6 := a6) (a7 := a7) (a8 := a8) (a9 := a9) (a10 := a10) (a11 := a11) (a12 := a12) (a13 := a13) T
    refine ⟨δ2, s2, ?_, I2⟩
    simp -implicitDefEqProofs [turn, e]
end Fl
set_option Elab.async false
set_option linter.all false
set_option maxRecDepth 100000
set_option maxHeartbeats 2000000
namespace Fl
open PySem PySem.Spec PyProof.Rows L2
def top (i : Nat) : Stmt := PySem.Challenge.pw_workdaylogs_k17_whole_promises_at_once.main.body.getD i (.Pass ⟨0, 0, 0, 0⟩)
structure Tx (K : PySem.W.Frag) (mg : Str → Option Value) : Prop where
  nlen : mg "len" = none
  nrange : mg "range" = none
  nenumerate : mg "enumerate" = none
  nint : mg "int" = none
  nmin : mg "min" = none
  nall : mg "all" = none
  nisinstance : mg "isinstance" = none
  nbool : mg "bool" = none
  nstr : mg "str" = none
  ntuple : mg "tuple" = none
  nlist : mg "list" = none
  nzip : mg "zip" = none
  cFAR : ∃ t, mg "FAR" = some (.int 99 t)
  cMOST_DAYS : ∃ t, mg "MOST_DAYS" = some (.int 31 t)
  cMOST_PROMISES : ∃ t, mg "MOST_PROMISES" = some (.int 6 t)
  cKINDS : ∃ a, mg "KINDS" = some (.ref a) ∧ KT K a ([[111, 110], [98, 121], [102, 114, 111, 109]].map fun c => V.str ⟨c.toArray⟩)
  kLog : ClsOk K 2
  oLog : ClsOps K 2
  iLog : IsiOk K mg 2
  xInvalidRow : ExcOk K mg 0
  xInvalidPromise : ExcOk K mg 1
  xTooMany : ExcOk K mg 6
  xContradiction : ExcOk K mg 5
  xNothingToUndo : ExcOk K mg 7
  hInvalidPromise_1_5_6 : TakesOk K mg [1, 5, 6] 1
  hTooMany_1_5_6 : TakesOk K mg [1, 5, 6] 6
  hContradiction_1_5_6 : TakesOk K mg [1, 5, 6] 5
section
variable {P : Program} {w : World} {K : PySem.W.Frag} {mg : Str → Option Value} {base : Heap}
abbrev s_first_bounds : Stmt := top 3
theorem sc_first_bounds : FnScope N_first_bounds ["known", "promises"] (defScope s_first_bounds) := ⟨rfl, rfl, rfl, by decide +kernel, rfl, by decide +kernel, by decide +kernel⟩
theorem bi_first_bounds {f : Addr} {fd : FuncData} (F : FnP K "first_bounds" "first_bounds" s_first_bounds f fd) : Binds K fd ["known", "promises"] [] := F.bindsN fun _ _ _ _ _ _ us hl => match us, hl with | [_, _], _ => rfl
theorem j_first_bounds (T : Tx K mg) {f : Addr} {fd : FuncData} (F : FnP K "first_bounds" "first_bounds" s_first_bounds f fd)  : JAt P w K mg base (clK K) 1 f 2 m_first_bounds := by
  have nd := sc_first_bounds.nd
  refine fn_okK (N := N_first_bounds) (ps := ["known", "promises"]) (body := b_first_bounds) F (bi_first_bounds F) sc_first_bounds fun cdv A outer s H E hr tk po => ?_
  exact (jss_cons (js_set (i := 2) nd (je_callB call_len ok_len (by rfl) T.nlen bb_len (ja_cons (je_var 0) ja_nil)))
      (jss_cons (js_setLcO (i := 3) rfl nd (sw_true rfl rfl rfl (by decide +kernel)) (ji_range1 (by rfl) T.nrange (ja_cons (je_op op_addU ok_add (je_var 2) je_int) ja_nil)) (blkOk_by (own := [("one", 10)]) (N := N_first_bounds) (sc := (defScope s_first_bounds)) (by decide +kernel)) (fun _ _ _ _ _ => (jc_name (i := 10) nd)) (fun _ _ _ _ _ => jts_nil) (fun _ _ _ _ _ => (je_lcO rfl nd (ji_range1 (by rfl) T.nrange (ja_cons (je_op op_addU ok_add (je_var 2) je_int) ja_nil)) (blkOk_by (own := [("other", 11)]) (N := N_first_bounds) (sc := (relS _ (defScope s_first_bounds))) (by decide +kernel)) (fun _ _ _ _ _ => (jc_name (i := 11) nd)) (fun _ _ _ _ _ => jts_nil) (fun _ _ _ _ _ => (je_ite (jt_cmp (op_eqD hr.units) ok_eq (je_var 10) (je_var 11) (nomark _)) je_int (je_globI T.cFAR (by rfl)))))))
      (jss_cons (js_for po rfl (ji_enum (by rfl) T.nenumerate (ja_cons (je_var 0) ja_nil)) (jg_tup rfl (jgs_cons (jg_name (i := 4) nd) (jgs_cons (jg_name (i := 5) nd) jgs_nil))) (jss_cons (js_asg (je_callTy call_int1 ok_intOf (by rfl) T.nint bb_int (ja_cons (je_cmp (op_neD hr.units) ok_ne (je_var 5) (je_str [102]) (nomark _)) ja_nil)) (jg_set (cl := clK K) (je_ix ix_U ok_ix (je_var 3) (je_var 4) (fun _ _ => rfl)) (je_op op_addU ok_add (je_var 4) je_int)))
      (jss_one (js_asg (je_un un_neg ok_neg (je_callTy call_int1 ok_intOf (by rfl) T.nint bb_int (ja_cons (je_cmp (op_eqD hr.units) ok_eq (je_var 5) (je_str [119]) (nomark _)) ja_nil))) (jg_set (cl := clK K) (je_ix ix_U ok_ix (je_var 3) (je_op op_addU ok_add (je_var 4) je_int) (fun _ _ => rfl)) (je_var 4))))))
      (jss_cons (js_for po rfl (ji_any (je_var 1)) (jg_tup rfl (jgs_cons (jg_name (i := 6) nd) (jgs_cons (jg_name (i := 7) nd) (jgs_cons (jg_name (i := 8) nd) (jgs_cons (jg_name (i := 9) nd) jgs_nil))))) (jss_cons (js_if (jt_cmp (op_neD hr.units) ok_ne (je_var 6) (je_str [102, 114, 111, 109]) (nomark _)) (jss_one (js_asg (je_callB (call_minU rfl) ok_min (by rfl) T.nmin bb_min (ja_cons (je_ix ix_U ok_ix (je_ix ix_U ok_ix (je_var 3) (je_op op_addU ok_add (je_var 9) je_int) (fun _ _ => rfl)) (je_op op_addU ok_add (je_var 7) je_int) (fun _ _ => rfl)) (ja_cons (je_un un_neg ok_neg (je_var 8)) ja_nil))) (jg_set (cl := clK K) (je_ix ix_U ok_ix (je_var 3) (je_op op_addU ok_add (je_var 9) je_int) (fun _ _ => rfl)) (je_op op_addU ok_add (je_var 7) je_int)))) jss_nil)
      (jss_one (js_if (jt_cmp (op_neD hr.units) ok_ne (je_var 6) (je_str [98, 121]) (nomark _)) (jss_one (js_asg (je_callB (call_minU rfl) ok_min (by rfl) T.nmin bb_min (ja_cons (je_ix ix_U ok_ix (je_ix ix_U ok_ix (je_var 3) (je_op op_addU ok_add (je_var 7) je_int) (fun _ _ => rfl)) (je_var 9) (fun _ _ => rfl)) (ja_cons (je_op op_sub ok_sub (je_var 8) je_int) ja_nil))) (jg_set (cl := clK K) (je_ix ix_U ok_ix (je_var 3) (je_op op_addU ok_add (je_var 7) je_int) (fun _ _ => rfl)) (je_var 9)))) jss_nil))))
      (jss_one (js_ret (je_var 3)))))))
abbrev s_all_bounds : Stmt := top 4
theorem sc_all_bounds : FnScope N_all_bounds ["known", "promises"] (defScope s_all_bounds) := ⟨rfl, rfl, rfl, by decide +kernel, rfl, by decide +kernel, by decide +kernel⟩
theorem bi_all_bounds {f : Addr} {fd : FuncData} (F : FnP K "all_bounds" "all_bounds" s_all_bounds f fd) : Binds K fd ["known", "promises"] [] := F.bindsN fun _ _ _ _ _ _ us hl => match us, hl with | [_, _], _ => rfl
theorem j_all_bounds (T : Tx K mg) {f : Addr} {fd : FuncData} (F : FnP K "all_bounds" "all_bounds" s_all_bounds f fd) (J_first_bounds : JFn P w K mg base (clK K) 1 "first_bounds" 2 m_first_bounds) : JAt P w K mg base (clK K) 2 f 2 m_all_bounds := by
  have nd := sc_all_bounds.nd
  refine fn_ok (N := N_all_bounds) (ps := ["known", "promises"]) (body := b_all_bounds) F (bi_all_bounds F) sc_all_bounds fun cdv A outer s H E hr tk po => ?_
  exact (jss_cons (js_set (i := 2) nd (je_call J_first_bounds hr (by decide) tk (by rfl) (ja_cons (je_var 0) (ja_cons (je_var 1) ja_nil))))
      (jss_cons (js_set (i := 3) nd (je_callB call_len ok_len (by rfl) T.nlen bb_len (ja_cons (je_var 2) ja_nil)))
      (jss_cons (js_for po rfl (ji_range1 (by rfl) T.nrange (ja_cons (je_var 3) ja_nil)) (jg_name (i := 4) nd) (jss_one (js_for po rfl (ji_range1 (by rfl) T.nrange (ja_cons (je_var 3) ja_nil)) (jg_name (i := 5) nd) (jss_one (js_for po rfl (ji_range1 (by rfl) T.nrange (ja_cons (je_var 3) ja_nil)) (jg_name (i := 6) nd) (jss_cons (js_set (i := 7) nd (je_op op_addU ok_add (je_ix ix_U ok_ix (je_ix ix_U ok_ix (je_var 2) (je_var 5) (fun _ _ => rfl)) (je_var 4) (fun _ _ => rfl)) (je_ix ix_U ok_ix (je_ix ix_U ok_ix (je_var 2) (je_var 4) (fun _ _ => rfl)) (je_var 6) (fun _ _ => rfl))))
      (jss_one (js_if (jt_cmp op_lt ok_lt (je_var 7) (je_ix ix_U ok_ix (je_ix ix_U ok_ix (je_var 2) (je_var 5) (fun _ _ => rfl)) (je_var 6) (fun _ _ => rfl)) (nomark _)) (jss_one (js_asg (je_var 7) (jg_set (cl := clK K) (je_ix ix_U ok_ix (je_var 2) (je_var 5) (fun _ _ => rfl)) (je_var 6)))) jss_nil))))))))
      (jss_one (js_ret (je_ite (jt_val (je_callB (cr_all rfl) ok_all (by rfl) T.nall bb_all (ja_cons (je_lc rfl nd (ji_range1 (by rfl) T.nrange (ja_cons (je_var 3) ja_nil)) (blkOk_by (own := [("at", 8)]) (N := N_all_bounds) (sc := (defScope s_all_bounds)) (by decide +kernel)) (fun _ _ _ _ _ => (jc_name (i := 8) nd)) (fun _ _ _ _ _ => jts_nil) (fun _ _ _ _ _ => (je_cmp op_ge ok_ge (je_ix ix_U ok_ix (je_ix ix_U ok_ix (je_var 2) (je_var 8) (fun _ _ => rfl)) (je_var 8) (fun _ _ => rfl)) je_int (nomark _)))) ja_nil))) (je_var 2) je_non))))))
abbrev s_is_possible : Stmt := top 5
theorem sc_is_possible : FnScope N_is_possible ["known", "promises"] (defScope s_is_possible) := ⟨rfl, rfl, rfl, by decide +kernel, rfl, by decide +kernel, by decide +kernel⟩
theorem bi_is_possible {f : Addr} {fd : FuncData} (F : FnP K "is_possible" "is_possible" s_is_possible f fd) : Binds K fd ["known", "promises"] [] := F.bindsN fun _ _ _ _ _ _ us hl => match us, hl with | [_, _], _ => rfl
theorem j_is_possible (T : Tx K mg) {f : Addr} {fd : FuncData} (F : FnP K "is_possible" "is_possible" s_is_possible f fd) (J_all_bounds : JFn P w K mg base (clK K) 2 "all_bounds" 2 m_all_bounds) : JAt P w K mg base (clK K) 3 f 2 m_is_possible := by
  have nd := sc_is_possible.nd
  refine fn_ok (N := N_is_possible) (ps := ["known", "promises"]) (body := b_is_possible) F (bi_is_possible F) sc_is_possible fun cdv A outer s H E hr tk po => ?_
  exact (jss_one (js_ret (je_cmp op_isntU ok_isnt (je_call J_all_bounds hr (by decide) tk (by rfl) (ja_cons (je_var 0) (ja_cons (je_var 1) ja_nil))) je_non (nomark _))))
abbrev s_range_of : Stmt := top 6
theorem sc_range_of : FnScope N_range_of ["table", "first", "last"] (defScope s_range_of) := ⟨rfl, rfl, rfl, by decide +kernel, rfl, by decide +kernel, by decide +kernel⟩
theorem bi_range_of {f : Addr} {fd : FuncData} (F : FnP K "range_of" "range_of" s_range_of f fd) : Binds K fd ["table", "first", "last"] [] := F.bindsN fun _ _ _ _ _ _ us hl => match us, hl with | [_, _, _], _ => rfl
theorem j_range_of (T : Tx K mg) {f : Addr} {fd : FuncData} (F : FnP K "range_of" "range_of" s_range_of f fd)  : JAt P w K mg base (clK K) 1 f 3 m_range_of := by
  have nd := sc_range_of.nd
  refine fn_ok (N := N_range_of) (ps := ["table", "first", "last"]) (body := b_range_of) F (bi_range_of F) sc_range_of fun cdv A outer s H E hr tk po => ?_
  exact (jss_one (js_ret (je_tup (ja_cons (je_un un_neg ok_neg (je_ix ix_U ok_ix (je_ix ix_U ok_ix (je_var 0) (je_op op_addU ok_add (je_var 2) je_int) (fun _ _ => rfl)) (je_var 1) (fun _ _ => rfl))) (ja_cons (je_ix ix_U ok_ix (je_ix ix_U ok_ix (je_var 0) (je_var 1) (fun _ _ => rfl)) (je_op op_addU ok_add (je_var 2) je_int) (fun _ _ => rfl)) ja_nil)))))
abbrev s_day_states : Stmt := top 7
theorem sc_day_states : FnScope N_day_states ["known", "promises"] (defScope s_day_states) := ⟨rfl, rfl, rfl, by decide +kernel, rfl, by decide +kernel, by decide +kernel⟩
theorem bi_day_states {f : Addr} {fd : FuncData} (F : FnP K "day_states" "day_states" s_day_states f fd) : Binds K fd ["known", "promises"] [] := F.bindsN fun _ _ _ _ _ _ us hl => match us, hl with | [_, _], _ => rfl
theorem j_day_states (T : Tx K mg) {f : Addr} {fd : FuncData} (F : FnP K "day_states" "day_states" s_day_states f fd) (J_all_bounds : JFn P w K mg base (clK K) 2 "all_bounds" 2 m_all_bounds) (J_range_of : JFn P w K mg base (clK K) 1 "range_of" 3 m_range_of) : JAt P w K mg base (clK K) 3 f 2 m_day_states := by
  have nd := sc_day_states.nd
  refine fn_ok (N := N_day_states) (ps := ["known", "promises"]) (body := b_day_states) F (bi_day_states F) sc_day_states fun cdv A outer s H E hr tk po => ?_
  exact (jss_cons (js_set (i := 2) nd (je_call J_all_bounds hr (by decide) tk (by rfl) (ja_cons (je_var 0) (ja_cons (je_var 1) ja_nil))))
      (jss_cons (js_if (jt_cmp op_isU ok_is (je_var 2) je_non (nomark _)) (jss_one (js_ret je_non)) jss_nil)
      (jss_cons (js_set (i := 3) nd (je_own ja_nil))
      (jss_cons (js_for po rfl (ji_range1 (by rfl) T.nrange (ja_cons (je_callB call_len ok_len (by rfl) T.nlen bb_len (ja_cons (je_var 0) ja_nil)) ja_nil)) (jg_name (i := 4) nd) (jss_cons (js_asg (je_call J_range_of hr (by decide) tk (by rfl) (ja_cons (je_var 2) (ja_cons (je_var 4) (ja_cons (je_var 4) ja_nil)))) (jg_tup rfl (jgs_cons (jg_name (i := 5) nd) (jgs_cons (jg_name (i := 6) nd) jgs_nil))))
      (jss_one (js_expr (je_bm PySem.F.plainAttrs_list PySem.F.slot_list_append PySem.F.type_list_append mt_append ty_own ok_app (je_var 3) (ja_cons (je_ite (jt_cmp op_lt ok_lt (je_var 5) (je_var 6) (nomark _)) (je_str [63]) (je_ix ix_U ok_ix (je_str [102, 119]) (je_var 5) (fun _ _ => rfl))) ja_nil))))))
      (jss_one (js_ret (je_bm PySem.F.plainAttrs_str PySem.F.slot_str_join PySem.F.type_str_join mt_join ty_str ok_join (je_str []) (ja_cons (je_var 3) ja_nil))))))))
abbrev s_is_integer : Stmt := top 20
theorem sc_is_integer : FnScope N_is_integer ["value", "low", "high"] (defScope s_is_integer) := ⟨rfl, rfl, rfl, by decide +kernel, rfl, by decide +kernel, by decide +kernel⟩
theorem bi_is_integer {f : Addr} {fd : FuncData} (F : FnP K "is_integer" "is_integer" s_is_integer f fd) : Binds K fd ["value", "low", "high"] [] := F.bindsN fun _ _ _ _ _ _ us hl => match us, hl with | [_, _, _], _ => rfl
theorem j_is_integer (T : Tx K mg) {f : Addr} {fd : FuncData} (F : FnP K "is_integer" "is_integer" s_is_integer f fd)  : JAt P w K mg base (clK K) 1 f 3 m_is_integer := by
  have nd := sc_is_integer.nd
  refine fn_ok (N := N_is_integer) (ps := ["value", "low", "high"]) (body := b_is_integer) F (bi_is_integer F) sc_is_integer fun cdv A outer s H E hr tk po => ?_
  exact (jss_one (js_ret (je_and (je_callB call_isiU ok_isi (by rfl) T.nisinstance bb_isinstance (ja_cons (je_var 0) (ja_cons (je_ty (by rfl) T.nint bb_int) ja_nil))) (je_and (je_not (je_callB call_isiU ok_isi (by rfl) T.nisinstance bb_isinstance (ja_cons (je_var 0) (ja_cons (je_ty (by rfl) T.nbool bb_bool) ja_nil)))) (je_one (je_chain op_le op_le ok_le ok_le (je_var 1) (je_var 0) (je_var 2)))))))
abbrev s_are_letters : Stmt := top 21
theorem sc_are_letters : FnScope N_are_letters ["value", "letters"] (defScope s_are_letters) := ⟨rfl, rfl, rfl, by decide +kernel, rfl, by decide +kernel, by decide +kernel⟩
theorem bi_are_letters {f : Addr} {fd : FuncData} (F : FnP K "are_letters" "are_letters" s_are_letters f fd) : Binds K fd ["value", "letters"] [] := F.bindsN fun _ _ _ _ _ _ us hl => match us, hl with | [_, _], _ => rfl
theorem j_are_letters (T : Tx K mg) {f : Addr} {fd : FuncData} (F : FnP K "are_letters" "are_letters" s_are_letters f fd)  : JAt P w K mg base (clK K) 1 f 2 m_are_letters := by
  have nd := sc_are_letters.nd
  refine fn_ok (N := N_are_letters) (ps := ["value", "letters"]) (body := b_are_letters) F (bi_are_letters F) sc_are_letters fun cdv A outer s H E hr tk po => ?_
  exact (jss_one (js_ret (je_and (je_callB call_isiU ok_isi (by rfl) T.nisinstance bb_isinstance (ja_cons (je_var 0) (ja_cons (je_ty (by rfl) T.nstr bb_str) ja_nil))) (je_and (je_chain op_le op_le ok_le ok_le je_int (je_callB call_len ok_len (by rfl) T.nlen bb_len (ja_cons (je_var 0) ja_nil)) (je_globI T.cMOST_DAYS (by rfl))) (je_one (je_callB (cr_all rfl) ok_all (by rfl) T.nall bb_all (ja_cons (je_lc rfl nd (ji_any (je_var 0)) (blkOk_by (own := [("letter", 2)]) (N := N_are_letters) (sc := (defScope s_are_letters)) (by decide +kernel)) (fun _ _ _ _ _ => (jc_name (i := 2) nd)) (fun _ _ _ _ _ => jts_nil) (fun _ _ _ _ _ => (je_cmp (op_inU (un65 hr)) ok_in (je_var 2) (je_var 1) (by rfl)))) ja_nil)))))))
abbrev s_is_known_rows : Stmt := top 22
theorem sc_is_known_rows : FnScope N_is_known_rows ["value"] (defScope s_is_known_rows) := ⟨rfl, rfl, rfl, by decide +kernel, rfl, by decide +kernel, by decide +kernel⟩
theorem bi_is_known_rows {f : Addr} {fd : FuncData} (F : FnP K "is_known" "is_known" s_is_known_rows f fd) : Binds K fd ["value"] [] := F.bindsN fun _ _ _ _ _ _ us hl => match us, hl with | [_], _ => rfl
theorem j_is_known_rows (T : Tx K mg) {f : Addr} {fd : FuncData} (F : FnP K "is_known" "is_known" s_is_known_rows f fd) (J_are_letters : JFn P w K mg base (clK K) 1 "are_letters" 2 m_are_letters) : JAt P w K mg base (clK K) 2 f 1 m_is_known_rows := by
  have nd := sc_is_known_rows.nd
  refine fn_ok (N := N_is_known_rows) (ps := ["value"]) (body := b_is_known_rows) F (bi_is_known_rows F) sc_is_known_rows fun cdv A outer s H E hr tk po => ?_
  exact (jss_one (js_ret (je_call J_are_letters hr (by decide) tk (by rfl) (ja_cons (je_var 0) (ja_cons (je_str [119, 102, 63]) ja_nil)))))
abbrev s_is_promise : Stmt := top 24
theorem sc_is_promise : FnScope N_is_promise ["known", "value"] (defScope s_is_promise) := ⟨rfl, rfl, rfl, by decide +kernel, rfl, by decide +kernel, by decide +kernel⟩
theorem bi_is_promise {f : Addr} {fd : FuncData} (F : FnP K "is_promise" "is_promise" s_is_promise f fd) : Binds K fd ["known", "value"] [] := F.bindsN fun _ _ _ _ _ _ us hl => match us, hl with | [_, _], _ => rfl
theorem j_is_promise (T : Tx K mg) {f : Addr} {fd : FuncData} (F : FnP K "is_promise" "is_promise" s_is_promise f fd) (J_is_integer : JFn P w K mg base (clK K) 1 "is_integer" 3 m_is_integer) : JAt P w K mg base (clK K) 2 f 2 m_is_promise := by
  have nd := sc_is_promise.nd
  refine fn_ok (N := N_is_promise) (ps := ["known", "value"]) (body := b_is_promise) F (bi_is_promise F) sc_is_promise fun cdv A outer s H E hr tk po => ?_
  exact (jss_cons (js_if (jt_w (jw_or (jt_not (jt_val (je_callB call_isiU ok_isi (by rfl) T.nisinstance bb_isinstance (ja_cons (je_var 1) (ja_cons (je_ty (by rfl) T.ntuple bb_tuple) ja_nil))))) (jw_or (jt_cmp (op_neD hr.units) ok_ne (je_callB call_len ok_len (by rfl) T.nlen bb_len (ja_cons (je_var 1) ja_nil)) je_int (nomark _)) (jw_or (jt_not (jt_val (je_callB call_isiU ok_isi (by rfl) T.nisinstance bb_isinstance (ja_cons (je_ix ix_U ok_ix (je_var 1) je_int (fun _ _ => rfl)) (ja_cons (je_ty (by rfl) T.nstr bb_str) ja_nil))))) (jw_or1 (jt_cmp (op_ninU (un65 hr)) ok_nin (je_ix ix_U ok_ix (je_var 1) je_int (fun _ _ => rfl)) (je_globT (cs := [[111, 110], [98, 121], [102, 114, 111, 109]]) T.cKINDS (by rfl)) (by rfl))))))) (jss_one (js_ret je_bl)) jss_nil)
      (jss_cons (js_set (i := 2) nd (je_callB call_len ok_len (by rfl) T.nlen bb_len (ja_cons (je_var 0) ja_nil)))
      (jss_cons (js_if (jt_w (jw_or (jt_not (jt_val (je_call J_is_integer hr (by decide) tk (by rfl) (ja_cons (je_ix ix_U ok_ix (je_var 1) je_int (fun _ _ => rfl)) (ja_cons (je_un un_neg ok_neg je_int) (ja_cons (je_op op_sub ok_sub (je_var 2) je_int) ja_nil)))))) (jw_or1 (jt_not (jt_val (je_call J_is_integer hr (by decide) tk (by rfl) (ja_cons (je_ix ix_U ok_ix (je_var 1) je_int (fun _ _ => rfl)) (ja_cons je_int (ja_cons (je_var 2) ja_nil))))))))) (jss_one (js_ret je_bl)) jss_nil)
      (jss_one (js_ret (je_call J_is_integer hr (by decide) tk (by rfl) (ja_cons (je_ix ix_U ok_ix (je_var 1) je_int (fun _ _ => rfl)) (ja_cons (je_op op_addU ok_add (je_ix ix_U ok_ix (je_var 1) je_int (fun _ _ => rfl)) je_int) (ja_cons (je_op op_sub ok_sub (je_var 2) je_int) ja_nil)))))))))
abbrev s_are_promises : Stmt := top 25
theorem sc_are_promises : FnScope N_are_promises ["known", "value"] (defScope s_are_promises) := ⟨rfl, rfl, rfl, by decide +kernel, rfl, by decide +kernel, by decide +kernel⟩
theorem bi_are_promises {f : Addr} {fd : FuncData} (F : FnP K "are_promises" "are_promises" s_are_promises f fd) : Binds K fd ["known", "value"] [] := F.bindsN fun _ _ _ _ _ _ us hl => match us, hl with | [_, _], _ => rfl
theorem j_are_promises (T : Tx K mg) {f : Addr} {fd : FuncData} (F : FnP K "are_promises" "are_promises" s_are_promises f fd) (J_is_promise : JFn P w K mg base (clK K) 2 "is_promise" 2 m_is_promise) : JAt P w K mg base (clK K) 3 f 2 m_are_promises := by
  have nd := sc_are_promises.nd
  refine fn_ok (N := N_are_promises) (ps := ["known", "value"]) (body := b_are_promises) F (bi_are_promises F) sc_are_promises fun cdv A outer s H E hr tk po => ?_
  exact (jss_cons (js_if (jt_w (jw_or (jt_not (jt_val (je_callB call_isiU ok_isi (by rfl) T.nisinstance bb_isinstance (ja_cons (je_var 1) (ja_cons (je_ty (by rfl) T.ntuple bb_tuple) ja_nil))))) (jw_or1 (jt_cmp op_gt ok_gt (je_callB call_len ok_len (by rfl) T.nlen bb_len (ja_cons (je_var 1) ja_nil)) (je_globI T.cMOST_PROMISES (by rfl)) (nomark _))))) (jss_one (js_ret je_bl)) jss_nil)
      (jss_one (js_ret (je_callB (cr_all rfl) ok_all (by rfl) T.nall bb_all (ja_cons (je_lc rfl nd (ji_any (je_var 1)) (blkOk_by (own := [("promise", 2)]) (N := N_are_promises) (sc := (defScope s_are_promises)) (by decide +kernel)) (fun _ _ _ _ _ => (jc_name (i := 2) nd)) (fun _ _ _ _ _ => jts_nil) (fun _ _ _ _ _ => (je_call J_is_promise hr (by decide) takes0 (by rfl) (ja_cons (je_var 0) (ja_cons (je_var 2) ja_nil))))) ja_nil)))))
abbrev s_LogD__initD_ : Stmt := mth (top 27) 1
theorem sc_LogD__initD_ : FnScope N_LogD__initD_ ["self", "known"] (defScope s_LogD__initD_) := ⟨rfl, rfl, rfl, by decide +kernel, rfl, by decide +kernel, by decide +kernel⟩
theorem bi_LogD__initD_ {f : Addr} {fd : FuncData} (F : FnP K "__init__" "Log.__init__" s_LogD__initD_ f fd) : Binds K fd ["self", "known"] [] := F.bindsN fun _ _ _ _ _ _ us hl => match us, hl with | [_, _], _ => rfl
theorem j_LogD__initD_ (T : Tx K mg) {f : Addr} {fd : FuncData} (F : FnP K "__init__" "Log.__init__" s_LogD__initD_ f fd) (J_is_known_rows : JFn P w K mg base (clK K) 2 "is_known_rows" 1 m_is_known_rows) : JAt P w K mg base (clK K) 3 f 2 m_LogD__initD_ := by
  have nd := sc_LogD__initD_.nd
  refine fn_okK (N := N_LogD__initD_) (ps := ["self", "known"]) (body := b_LogD__initD_) F (bi_LogD__initD_ F) sc_LogD__initD_ fun cdv A outer s H E hr tk po => ?_
  exact (jss_cons (js_if (jt_not (jt_val (je_call J_is_known_rows hr (by decide) tk (by rfl) (ja_cons (je_var 1) ja_nil)))) (jss_one (js_raise 0 rfl T.xInvalidRow rfl tk (by rfl))) jss_nil)
      (jss_cons (js_fld 0 T.kLog (je_var 0) (je_var 1))
      (jss_cons (js_fld 1 T.kLog (je_var 0) (je_tup ja_nil))
      (jss_cons (js_fld 2 T.kLog (je_var 0) (je_var 1))
      (jss_one (js_fld 3 T.kLog (je_var 0) (je_own ja_nil)))))))
abbrev s_Log_promises : Stmt := mth (top 27) 4
theorem sc_Log_promises : FnScope N_Log_promises ["self"] (defScope s_Log_promises) := ⟨rfl, rfl, rfl, by decide +kernel, rfl, by decide +kernel, by decide +kernel⟩
theorem bi_Log_promises {f : Addr} {fd : FuncData} (F : FnP K "promises" "Log.promises" s_Log_promises f fd) : Binds K fd ["self"] [] := F.bindsN fun _ _ _ _ _ _ us hl => match us, hl with | [_], _ => rfl
theorem j_Log_promises (T : Tx K mg) {f : Addr} {fd : FuncData} (F : FnP K "promises" "Log.promises" s_Log_promises f fd)  : JAt P w K mg base (clK K) 1 f 1 m_Log_promises := by
  have nd := sc_Log_promises.nd
  refine fn_ok (N := N_Log_promises) (ps := ["self"]) (body := b_Log_promises) F (bi_Log_promises F) sc_Log_promises fun cdv A outer s H E hr tk po => ?_
  exact (jss_one (js_ret (je_fld 1 T.kLog (je_var 0))))
abbrev s_Log_states : Stmt := mth (top 27) 5
theorem sc_Log_states : FnScope N_Log_states ["self"] (defScope s_Log_states) := ⟨rfl, rfl, rfl, by decide +kernel, rfl, by decide +kernel, by decide +kernel⟩
theorem bi_Log_states {f : Addr} {fd : FuncData} (F : FnP K "states" "Log.states" s_Log_states f fd) : Binds K fd ["self"] [] := F.bindsN fun _ _ _ _ _ _ us hl => match us, hl with | [_], _ => rfl
theorem j_Log_states (T : Tx K mg) {f : Addr} {fd : FuncData} (F : FnP K "states" "Log.states" s_Log_states f fd)  : JAt P w K mg base (clK K) 1 f 1 m_Log_states := by
  have nd := sc_Log_states.nd
  refine fn_ok (N := N_Log_states) (ps := ["self"]) (body := b_Log_states) F (bi_Log_states F) sc_Log_states fun cdv A outer s H E hr tk po => ?_
  exact (jss_one (js_ret (je_fld 2 T.kLog (je_var 0))))
abbrev s_Log_become : Stmt := mth (top 27) 6
theorem sc_Log_become : FnScope N_Log_become ["self", "promises"] (defScope s_Log_become) := ⟨rfl, rfl, rfl, by decide +kernel, rfl, by decide +kernel, by decide +kernel⟩
theorem bi_Log_become {f : Addr} {fd : FuncData} (F : FnP K "become" "Log.become" s_Log_become f fd) : Binds K fd ["self", "promises"] [] := F.bindsN fun _ _ _ _ _ _ us hl => match us, hl with | [_, _], _ => rfl
theorem j_Log_become (T : Tx K mg) {f : Addr} {fd : FuncData} (F : FnP K "become" "Log.become" s_Log_become f fd) (J_day_states : JFn P w K mg base (clK K) 3 "day_states" 2 m_day_states) : JAt P w K mg base (clK K) 4 f 2 m_Log_become := by
  have nd := sc_Log_become.nd
  refine fn_ok (N := N_Log_become) (ps := ["self", "promises"]) (body := b_Log_become) F (bi_Log_become F) sc_Log_become fun cdv A outer s H E hr tk po => ?_
  exact (jss_cons (js_fld 1 T.kLog (je_var 0) (je_var 1))
      (jss_one (js_fld 2 T.kLog (je_var 0) (je_call J_day_states hr (by decide) tk (by rfl) (ja_cons (je_fld 0 T.kLog (je_var 0)) (ja_cons (je_var 1) ja_nil))))))
abbrev s_Log_check : Stmt := mth (top 27) 7
theorem sc_Log_check : FnScope N_Log_check ["self", "promises", "promise"] (defScope s_Log_check) := ⟨rfl, rfl, rfl, by decide +kernel, rfl, by decide +kernel, by decide +kernel⟩
theorem bi_Log_check {f : Addr} {fd : FuncData} (F : FnP K "check" "Log.check" s_Log_check f fd) : Binds K fd ["self", "promises", "promise"] [] := F.bindsN fun _ _ _ _ _ _ us hl => match us, hl with | [_, _, _], _ => rfl
theorem j_Log_check (T : Tx K mg) {f : Addr} {fd : FuncData} (F : FnP K "check" "Log.check" s_Log_check f fd) (J_is_promise : JFn P w K mg base (clK K) 2 "is_promise" 2 m_is_promise) (J_is_possible : JFn P w K mg base (clK K) 3 "is_possible" 2 m_is_possible) : JAt P w K mg base (clK K) 4 f 3 m_Log_check := by
  have nd := sc_Log_check.nd
  refine fn_ok (N := N_Log_check) (ps := ["self", "promises", "promise"]) (body := b_Log_check) F (bi_Log_check F) sc_Log_check fun cdv A outer s H E hr tk po => ?_
  exact (jss_cons (js_if (jt_not (jt_val (je_call J_is_promise hr (by decide) tk (by rfl) (ja_cons (je_fld 0 T.kLog (je_var 0)) (ja_cons (je_var 2) ja_nil))))) (jss_one (js_raise 1 rfl T.xInvalidPromise rfl tk (by rfl))) jss_nil)
      (jss_cons (js_if (jt_cmp op_ge ok_ge (je_callB call_len ok_len (by rfl) T.nlen bb_len (ja_cons (je_var 1) ja_nil)) (je_globI T.cMOST_PROMISES (by rfl)) (nomark _)) (jss_one (js_raise 6 rfl T.xTooMany rfl tk (by rfl))) jss_nil)
      (jss_one (js_if (jt_not (jt_val (je_call J_is_possible hr (by decide) tk (by rfl) (ja_cons (je_fld 0 T.kLog (je_var 0)) (ja_cons (je_tup (ja_star (je_var 1) (ja_cons (je_var 2) ja_nil))) ja_nil))))) (jss_one (js_raise 5 rfl T.xContradiction rfl tk (by rfl))) jss_nil))))
abbrev s_Log_add : Stmt := mth (top 27) 8
theorem sc_Log_add : FnScope N_Log_add ["self", "kind", "start", "count", "end"] (defScope s_Log_add) := ⟨rfl, rfl, rfl, by decide +kernel, rfl, by decide +kernel, by decide +kernel⟩
theorem bi_Log_add {f : Addr} {fd : FuncData} (F : FnP K "add" "Log.add" s_Log_add f fd) : Binds K fd ["self", "kind", "start", "count", "end"] [] := F.bindsN fun _ _ _ _ _ _ us hl => match us, hl with | [_, _, _, _, _], _ => rfl
theorem j_Log_add (T : Tx K mg) {f : Addr} {fd : FuncData} (F : FnP K "add" "Log.add" s_Log_add f fd) (J_Log_check : JMt P w K mg base (clK K) 4 2 "check" 3 m_Log_check) (J_Log_become : JMt P w K mg base (clK K) 4 2 "become" 2 m_Log_become) : JAt P w K mg base (clK K) 5 f 5 m_Log_add := by
  have nd := sc_Log_add.nd
  refine fn_ok (N := N_Log_add) (ps := ["self", "kind", "start", "count", "end"]) (body := b_Log_add) F (bi_Log_add F) sc_Log_add fun cdv A outer s H E hr tk po => ?_
  exact (jss_cons (js_set (i := 5) nd (je_tup (ja_cons (je_var 1) (ja_cons (je_var 2) (ja_cons (je_var 3) (ja_cons (je_var 4) ja_nil))))))
      (jss_cons (js_expr (je_meth J_Log_check T.kLog hr (by decide) tk (je_var 0) (ja_cons (je_fld 1 T.kLog (je_var 0)) (ja_cons (je_var 5) ja_nil))))
      (jss_cons (js_expr (je_bm PySem.F.plainAttrs_list PySem.F.slot_list_append PySem.F.type_list_append mt_append ty_own ok_app (je_fld 3 T.kLog (je_var 0)) (ja_cons (je_fld 1 T.kLog (je_var 0)) ja_nil)))
      (jss_cons (js_expr (je_meth J_Log_become T.kLog hr (by decide) tk (je_var 0) (ja_cons (je_tup (ja_star (je_fld 1 T.kLog (je_var 0)) (ja_cons (je_var 5) ja_nil))) ja_nil)))
      (jss_one (js_ret (je_callB call_len ok_len (by rfl) T.nlen bb_len (ja_cons (je_lc rfl nd (ji_any (je_fld 2 T.kLog (je_var 0))) (blkOk_by (own := [("letter", 6)]) (N := N_Log_add) (sc := (defScope s_Log_add)) (by decide +kernel)) (fun _ _ _ _ _ => (jc_name (i := 6) nd)) (fun _ _ _ _ _ => (jts_one (jt_cmp (op_eqD hr.units) ok_eq (je_var 6) (je_str [63]) (nomark _)))) (fun _ _ _ _ _ => (je_var 6))) ja_nil))))))))
abbrev s_Log_try_all_v1 : Stmt := mth (top 27) 9
theorem sc_Log_try_all_v1 : FnScope N_Log_try_all_v1 ["self", "promises"] (defScope s_Log_try_all_v1) := ⟨rfl, rfl, rfl, by decide +kernel, rfl, by decide +kernel, by decide +kernel⟩
theorem bs_Log_try_all_v1 (kV doc pm cdv ct : Value) (an : Option Addr) : ∀ us rest : List Value, us.length = (["self"] : List Str).length → bindArgs (PySem.W.fnOf "try_all" "Log.try_all" (defArgs s_Log_try_all_v1) (defBody s_Log_try_all_v1) (defScope s_Log_try_all_v1) .none kV doc pm an cdv ct) ⟨us ++ rest, []⟩ = (newTuple rest >>= fun t => pure ((["self"] : List Str).zip us ++ [(("promises" : Str), t)])) := StX.bind_star1 (B := fun l => bindArgs (PySem.W.fnOf "try_all" "Log.try_all" (defArgs s_Log_try_all_v1) (defBody s_Log_try_all_v1) (defScope s_Log_try_all_v1) .none kV doc pm an cdv ct) ⟨l, []⟩) (fun _ => rfl) (fun _ _ _ => rfl)
theorem j_Log_try_all_v1 (T : Tx K mg) {f : Addr} {fd : FuncData} (F : FnP K "try_all" "Log.try_all" s_Log_try_all_v1 f fd) (J_Log_check : JMt P w K mg base (clK K) 4 2 "check" 3 m_Log_check) (J_Log_become : JMt P w K mg base (clK K) 4 2 "become" 2 m_Log_become) : FnR P w K mg base (L2.CX P w) 5 f (SpS K (clK K) 1 m_Log_try_all_v1) := by
  have nd := sc_Log_try_all_v1.nd
  refine fn_st (cl := clK K) (N := N_Log_try_all_v1) (ps := ["self"]) (pv := "promises") (body := b_Log_try_all_v1) F bs_Log_try_all_v1 sc_Log_try_all_v1 fun cdv A outer s H E hr tk po => ?_
  exact (jss_cons (js_set (i := 2) nd (je_fld 1 T.kLog (je_var 0)))
      (jss_cons (js_for po rfl (ji_any (je_var 1)) (jg_name (i := 3) nd) (jss_cons (js_tryT (cs := [1, 5, 6]) (h1 := 1) (h2 := 6) (h3 := 5) rfl rfl tk (fun W1 pn xe tk po => (jss_one (js_expr (je_meth J_Log_check T.kLog hr (by decide) tk (je_var 0) (ja_cons (je_var 2) (ja_cons (je_var 3) ja_nil)))))) ⟨rfl, by rfl, by decide, T.hInvalidPromise_1_5_6⟩ ⟨rfl, by rfl, by decide, T.hTooMany_1_5_6⟩ ⟨rfl, by rfl, by decide, T.hContradiction_1_5_6⟩ (by decide) (fun a oe pn => (jss_one (js_ret je_bl))))
      (jss_one (js_set (i := 2) nd (je_tup (ja_star (je_var 2) (ja_cons (je_var 3) ja_nil)))))))
      (jss_cons (js_expr (je_bm PySem.F.plainAttrs_list PySem.F.slot_list_append PySem.F.type_list_append mt_append ty_own ok_app (je_fld 3 T.kLog (je_var 0)) (ja_cons (je_fld 1 T.kLog (je_var 0)) ja_nil)))
      (jss_cons (js_expr (je_meth J_Log_become T.kLog hr (by decide) tk (je_var 0) (ja_cons (je_var 2) ja_nil)))
      (jss_one (js_ret je_bl))))))
abbrev s_Log_undo : Stmt := mth (top 27) 10
theorem sc_Log_undo : FnScope N_Log_undo ["self"] (defScope s_Log_undo) := ⟨rfl, rfl, rfl, by decide +kernel, rfl, by decide +kernel, by decide +kernel⟩
theorem bi_Log_undo {f : Addr} {fd : FuncData} (F : FnP K "undo" "Log.undo" s_Log_undo f fd) : Binds K fd ["self"] [] := F.bindsN fun _ _ _ _ _ _ us hl => match us, hl with | [_], _ => rfl
theorem j_Log_undo (T : Tx K mg) {f : Addr} {fd : FuncData} (F : FnP K "undo" "Log.undo" s_Log_undo f fd) (J_Log_become : JMt P w K mg base (clK K) 4 2 "become" 2 m_Log_become) : JAt P w K mg base (clK K) 5 f 1 m_Log_undo := by
  have nd := sc_Log_undo.nd
  refine fn_ok (N := N_Log_undo) (ps := ["self"]) (body := b_Log_undo) F (bi_Log_undo F) sc_Log_undo fun cdv A outer s H E hr tk po => ?_
  exact (jss_cons (js_if (jt_cmp (op_eqD hr.units) ok_eq (je_fld 3 T.kLog (je_var 0)) (je_lst ja_nil) (nomark _)) (jss_one (js_raise 7 rfl T.xNothingToUndo rfl tk (by rfl))) jss_nil)
      (jss_one (js_expr (je_meth J_Log_become T.kLog hr (by decide) tk (je_var 0) (ja_cons (je_bm0 PySem.F.plainAttrs_list PySem.F.slot_list_pop PySem.F.type_list_pop mt_pop ty_own ok_pop0 (je_fld 3 T.kLog (je_var 0))) ja_nil)))))
abbrev s_LogD__eqD_ : Stmt := mth (top 27) 17
theorem sc_LogD__eqD_ : FnScope N_LogD__eqD_ ["self", "other"] (defScope s_LogD__eqD_) := ⟨rfl, rfl, rfl, by decide +kernel, rfl, by decide +kernel, by decide +kernel⟩
theorem bi_LogD__eqD_ {f : Addr} {fd : FuncData} (F : FnP K "__eq__" "Log.__eq__" s_LogD__eqD_ f fd) : Binds K fd ["self", "other"] [] := F.bindsN fun _ _ _ _ _ _ us hl => match us, hl with | [_, _], _ => rfl
theorem j_LogD__eqD_ (T : Tx K mg) {f : Addr} {fd : FuncData} (F : FnP K "__eq__" "Log.__eq__" s_LogD__eqD_ f fd)  : JAt P w K mg base (clK K) 1 f 2 m_LogD__eqD_ := by
  have nd := sc_LogD__eqD_.nd
  refine fn_ok (N := N_LogD__eqD_) (ps := ["self", "other"]) (body := b_LogD__eqD_) F (bi_LogD__eqD_ F) sc_LogD__eqD_ fun cdv A outer s H E hr tk po => ?_
  exact (jss_one (js_ret (je_and (je_isiO rfl T.kLog T.iLog (by rfl) T.nisinstance bb_isinstance (by rfl) (je_var 1)) (je_and (je_cmp (op_eqD hr.units) ok_eq (je_fld 0 T.kLog (je_var 0)) (je_fld 0 T.kLog (je_var 1)) (nomark _)) (je_one (je_cmp (op_eqD hr.units) ok_eq (je_fld 1 T.kLog (je_var 0)) (je_fld 1 T.kLog (je_var 1)) (nomark _)))))))
abbrev s_law_draw : Stmt := top 29
theorem sc_law_draw : FnScope N_law_draw ["tape", "many"] (defScope s_law_draw) := ⟨rfl, rfl, rfl, by decide +kernel, rfl, by decide +kernel, by decide +kernel⟩
theorem bi_law_draw {f : Addr} {fd : FuncData} (F : FnP K "_law_draw" "_law_draw" s_law_draw f fd) : Binds K fd ["tape", "many"] [] := F.bindsN fun _ _ _ _ _ _ us hl => match us, hl with | [_, _], _ => rfl
theorem j_law_draw (T : Tx K mg) {f : Addr} {fd : FuncData} (F : FnP K "_law_draw" "_law_draw" s_law_draw f fd)  : JAt P w K mg base (clK K) 1 f 2 m_law_draw := by
  have nd := sc_law_draw.nd
  refine fn_ok (N := N_law_draw) (ps := ["tape", "many"]) (body := b_law_draw) F (bi_law_draw F) sc_law_draw fun cdv A outer s H E hr tk po => ?_
  exact (jss_cons (js_set (i := 2) nd je_int)
      (jss_cons (js_if (jt_cmp op_lt ok_lt (je_ix ix_U ok_ix (je_var 0) je_int (fun _ _ => rfl)) (je_var 1) (nomark _)) (jss_cons (js_set (i := 3) nd je_int)
      (jss_cons (js_if (jt_cmp op_gt ok_gt (je_callB call_len ok_len (by rfl) T.nlen bb_len (ja_cons (je_ix ix_U ok_ix (je_var 0) je_int (fun _ _ => rfl)) ja_nil)) je_int (nomark _)) (jss_one (js_set (i := 3) nd (je_ix ix_U ok_ix (je_ix ix_U ok_ix (je_var 0) je_int (fun _ _ => rfl)) (je_op op_mod ok_mod (je_ix ix_U ok_ix (je_var 0) je_int (fun _ _ => rfl)) (je_callB call_len ok_len (by rfl) T.nlen bb_len (ja_cons (je_ix ix_U ok_ix (je_var 0) je_int (fun _ _ => rfl)) ja_nil))) (fun _ _ => rfl)))) jss_nil)
      (jss_cons (js_if (jt_w (jw_or (jt_cmp op_ge ok_ge (je_ix ix_U ok_ix (je_var 0) je_int (fun _ _ => rfl)) (je_callB call_len ok_len (by rfl) T.nlen bb_len (ja_cons (je_ix ix_U ok_ix (je_var 0) je_int (fun _ _ => rfl)) ja_nil)) (nomark _)) (jw_or1 (jt_cmp op_lt ok_lt (je_var 3) (je_op op_pow ok_pow je_int je_int) (nomark _))))) (jss_cons (js_set (i := 3) nd (je_op op_mod ok_mod (je_op op_addU ok_add (je_var 3) (je_op op_mulU ok_mul je_int (je_ix ix_U ok_ix (je_var 0) je_int (fun _ _ => rfl)))) (je_var 2)))
      (jss_cons (js_set (i := 3) nd (je_op op_mod ok_mod (je_op op_addU ok_add (je_op op_addU ok_add (je_op op_mulU ok_mul (je_var 3) (je_var 3)) (je_op op_mulU ok_mul je_int (je_var 3))) je_int) (je_var 2)))
      (jss_one (js_set (i := 3) nd (je_op op_mod ok_mod (je_op op_addU ok_add (je_op op_mulU ok_mul (je_var 3) (je_var 3)) je_int) (je_var 2)))))) jss_nil)
      (jss_cons (js_asg (je_op op_addU ok_add (je_ix ix_U ok_ix (je_var 0) je_int (fun _ _ => rfl)) je_int) (jg_set (cl := clK K) (je_var 0) je_int))
      (jss_one (js_asg (je_var 3) (jg_set (cl := clK K) (je_var 0) je_int))))))) jss_nil)
      (jss_cons (js_set (i := 4) nd (je_op op_mod ok_mod (je_ix ix_U ok_ix (je_var 0) je_int (fun _ _ => rfl)) (je_var 1)))
      (jss_cons (js_asg (je_op op_fdivW ok_div (je_ix ix_U ok_ix (je_var 0) je_int (fun _ _ => rfl)) (je_var 1)) (jg_set (cl := clK K) (je_var 0) je_int))
      (jss_one (js_ret (je_var 4)))))))
abbrev s_law_like : Stmt := top 30
theorem sc_law_like : FnScope N_law_like ["one", "two"] (defScope s_law_like) := ⟨rfl, rfl, rfl, by decide +kernel, rfl, by decide +kernel, by decide +kernel⟩
theorem bi_law_like {f : Addr} {fd : FuncData} (F : FnP K "_law_like" "_law_like" s_law_like f fd) : Binds K fd ["one", "two"] [] := F.bindsN fun _ _ _ _ _ _ us hl => match us, hl with | [_, _], _ => rfl
theorem j_law_like_n (T : Tx K mg) {f : Addr} {fd : FuncData} (F : FnP K "_law_like" "_law_like" s_law_like f fd)  (hm : mg "_law_like" = some (.ref f)) : ∀ n : Nat, JAt P w K mg base (clK K) (1 + n) f 2 (m_law_like_n n)
  | 0 => fn_none F (bi_law_like F) sc_law_like
  | n + 1 => by
    have J_law_like : JFn P w K mg base (clK K) (1 + n) "_law_like" 2 (m_law_like_n n) := ⟨f, hm, j_law_like_n T F  hm n⟩
    have nd := sc_law_like.nd
    refine fn_ok (N := N_law_like) (ps := ["one", "two"]) (body := b_law_like (m_law_like_n n)) F (bi_law_like F) sc_law_like fun cdv A outer s H E hr tk po => ?_
    exact (jss_cons (js_if (jt_val (je_callB call_isiU ok_isi (by rfl) T.nisinstance bb_isinstance (ja_cons (je_var 0) (ja_cons (je_tup (ja_cons (je_ty (by rfl) T.nlist bb_list) (ja_cons (je_ty (by rfl) T.ntuple bb_tuple) ja_nil))) ja_nil)))) (jss_cons (js_if (jt_w (jw_or (jt_cmp (op_neD hr.units) ok_ne (je_callB call_isiU ok_isi (by rfl) T.nisinstance bb_isinstance (ja_cons (je_var 0) (ja_cons (je_ty (by rfl) T.nlist bb_list) ja_nil))) (je_callB call_isiU ok_isi (by rfl) T.nisinstance bb_isinstance (ja_cons (je_var 1) (ja_cons (je_ty (by rfl) T.nlist bb_list) ja_nil))) (nomark _)) (jw_or1 (jt_cmp (op_neD hr.units) ok_ne (je_callB call_isiU ok_isi (by rfl) T.nisinstance bb_isinstance (ja_cons (je_var 0) (ja_cons (je_ty (by rfl) T.ntuple bb_tuple) ja_nil))) (je_callB call_isiU ok_isi (by rfl) T.nisinstance bb_isinstance (ja_cons (je_var 1) (ja_cons (je_ty (by rfl) T.ntuple bb_tuple) ja_nil))) (nomark _))))) (jss_one (js_ret je_bl)) jss_nil)
      (jss_cons (js_if (jt_cmp (op_neD hr.units) ok_ne (je_callB call_len ok_len (by rfl) T.nlen bb_len (ja_cons (je_var 0) ja_nil)) (je_callB call_len ok_len (by rfl) T.nlen bb_len (ja_cons (je_var 1) ja_nil)) (nomark _)) (jss_one (js_ret je_bl)) jss_nil)
      (jss_one (js_ret (je_cmp (op_eqD hr.units) ok_eq (je_lc rfl nd (ji_range1 (by rfl) T.nrange (ja_cons (je_callB call_len ok_len (by rfl) T.nlen bb_len (ja_cons (je_var 0) ja_nil)) ja_nil)) (blkOk_by (own := [("k", 2)]) (N := N_law_like) (sc := (defScope s_law_like)) (by decide +kernel)) (fun _ _ _ _ _ => (jc_name (i := 2) nd)) (fun _ _ _ _ _ => (jts_one (jt_not (jt_val (je_call J_law_like hr (by show _ ≤ 1 + n; omega) takes0 (by rfl) (ja_cons (je_ix ix_U ok_ix (je_var 0) (je_var 2) (fun _ _ => rfl)) (ja_cons (je_ix ix_U ok_ix (je_var 1) (je_var 2) (fun _ _ => rfl)) ja_nil))))))) (fun _ _ _ _ _ => (je_var 2))) (je_lst ja_nil) (nomark _)))))) jss_nil)
      (jss_cons (js_if (jt_val (je_callB call_isiU ok_isi (by rfl) T.nisinstance bb_isinstance (ja_cons (je_var 1) (ja_cons (je_tup (ja_cons (je_ty (by rfl) T.nlist bb_list) (ja_cons (je_ty (by rfl) T.ntuple bb_tuple) ja_nil))) ja_nil)))) (jss_one (js_ret je_bl)) jss_nil)
      (jss_one (js_ret (je_and (je_cmp (op_eqD hr.units) ok_eq (je_callB call_isiU ok_isi (by rfl) T.nisinstance bb_isinstance (ja_cons (je_var 0) (ja_cons (je_ty (by rfl) T.nbool bb_bool) ja_nil))) (je_callB call_isiU ok_isi (by rfl) T.nisinstance bb_isinstance (ja_cons (je_var 1) (ja_cons (je_ty (by rfl) T.nbool bb_bool) ja_nil))) (nomark _)) (je_one (je_cmp (op_eqD hr.units) ok_eq (je_var 0) (je_var 1) (nomark _))))))))
theorem j_law_like (T : Tx K mg) {f : Addr} {fd : FuncData} (F : FnP K "_law_like" "_law_like" s_law_like f fd)  (hm : mg "_law_like" = some (.ref f)) : JAt P w K mg base (clK K) 5 f 2 m_law_like := j_law_like_n T F  hm 4
abbrev s_law_row : Stmt := top 31
theorem sc_law_row : FnScope N_law_row ["tape", "days"] (defScope s_law_row) := ⟨rfl, rfl, rfl, by decide +kernel, rfl, by decide +kernel, by decide +kernel⟩
theorem bi_law_row {f : Addr} {fd : FuncData} (F : FnP K "_law_row" "_law_row" s_law_row f fd) : Binds K fd ["tape", "days"] [] := F.bindsN fun _ _ _ _ _ _ us hl => match us, hl with | [_, _], _ => rfl
theorem j_law_row (T : Tx K mg) {f : Addr} {fd : FuncData} (F : FnP K "_law_row" "_law_row" s_law_row f fd) (J_law_draw : JFn P w K mg base (clK K) 1 "_law_draw" 2 m_law_draw) : JAt P w K mg base (clK K) 2 f 2 m_law_row := by
  have nd := sc_law_row.nd
  refine fn_ok (N := N_law_row) (ps := ["tape", "days"]) (body := b_law_row) F (bi_law_row F) sc_law_row fun cdv A outer s H E hr tk po => ?_
  exact (jss_cons (js_par (i := 2) (j := 3) rfl nd (by decide) (ja_cons (je_ix ix_U ok_ix (je_lst (ja_cons je_int (ja_cons je_int (ja_cons je_int ja_nil)))) (je_call J_law_draw hr (by decide) tk (by rfl) (ja_cons (je_var 0) (ja_cons je_int ja_nil))) (fun _ _ => rfl)) (ja_cons (je_str []) ja_nil)))
      (jss_cons (js_for po rfl (ji_range1 (by rfl) T.nrange (ja_cons (je_var 1) ja_nil)) (jg_name (i := 4) nd) (jss_one (js_set (i := 3) nd (je_op op_addU ok_add (je_var 3) (je_ix ix_U ok_ix (je_str [119, 102]) (je_callTy call_int1 ok_intOf (by rfl) T.nint bb_int (ja_cons (je_cmp (op_eqD hr.units) ok_eq (je_call J_law_draw hr (by decide) tk (by rfl) (ja_cons (je_var 0) (ja_cons (je_op op_addU ok_add (je_var 2) je_int) ja_nil))) je_int (nomark _)) ja_nil)) (fun _ _ => rfl))))))
      (jss_one (js_ret (je_var 3)))))
abbrev s_law_masked : Stmt := top 32
theorem sc_law_masked : FnScope N_law_masked ["tape", "row"] (defScope s_law_masked) := ⟨rfl, rfl, rfl, by decide +kernel, rfl, by decide +kernel, by decide +kernel⟩
theorem bi_law_masked {f : Addr} {fd : FuncData} (F : FnP K "_law_masked" "_law_masked" s_law_masked f fd) : Binds K fd ["tape", "row"] [] := F.bindsN fun _ _ _ _ _ _ us hl => match us, hl with | [_, _], _ => rfl
theorem j_law_masked (T : Tx K mg) {f : Addr} {fd : FuncData} (F : FnP K "_law_masked" "_law_masked" s_law_masked f fd) (J_law_draw : JFn P w K mg base (clK K) 1 "_law_draw" 2 m_law_draw) : JAt P w K mg base (clK K) 2 f 2 m_law_masked := by
  have nd := sc_law_masked.nd
  refine fn_ok (N := N_law_masked) (ps := ["tape", "row"]) (body := b_law_masked) F (bi_law_masked F) sc_law_masked fun cdv A outer s H E hr tk po => ?_
  exact (jss_cons (js_par (i := 2) (j := 3) rfl nd (by decide) (ja_cons (je_op op_addU ok_add je_int (je_call J_law_draw hr (by decide) tk (by rfl) (ja_cons (je_var 0) (ja_cons je_int ja_nil)))) (ja_cons (je_str []) ja_nil)))
      (jss_cons (js_for po rfl (ji_any (je_var 1)) (jg_name (i := 4) nd) (jss_one (js_set (i := 3) nd (je_op op_addU ok_add (je_var 3) (je_ite (jt_cmp (op_eqD hr.units) ok_eq (je_call J_law_draw hr (by decide) tk (by rfl) (ja_cons (je_var 0) (ja_cons (je_op op_addU ok_add (je_var 2) je_int) ja_nil))) je_int (nomark _)) (je_var 4) (je_str [63]))))))
      (jss_one (js_ret (je_var 3)))))
abbrev s_law_due : Stmt := top 33
theorem sc_law_due : FnScope N_law_due ["row", "start", "count"] (defScope s_law_due) := ⟨rfl, rfl, rfl, by decide +kernel, rfl, by decide +kernel, by decide +kernel⟩
theorem bi_law_due {f : Addr} {fd : FuncData} (F : FnP K "_law_due" "_law_due" s_law_due f fd) : Binds K fd ["row", "start", "count"] [] := F.bindsN fun _ _ _ _ _ _ us hl => match us, hl with | [_, _, _], _ => rfl
theorem j_law_due (T : Tx K mg) {f : Addr} {fd : FuncData} (F : FnP K "_law_due" "_law_due" s_law_due f fd)  : JAt P w K mg base (clK K) 1 f 3 m_law_due := by
  have nd := sc_law_due.nd
  refine fn_ok (N := N_law_due) (ps := ["row", "start", "count"]) (body := b_law_due) F (bi_law_due F) sc_law_due fun cdv A outer s H E hr tk po => ?_
  exact (jss_cons (js_setLc (i := 3) rfl nd (sw_true rfl rfl rfl (by decide +kernel)) (ji_range2 (by rfl) T.nrange (ja_cons (je_op op_addU ok_add (je_var 1) je_int) (ja_cons (je_callB call_len ok_len (by rfl) T.nlen bb_len (ja_cons (je_var 0) ja_nil)) ja_nil))) (blkOk_by (own := [("day", 4)]) (N := N_law_due) (sc := (defScope s_law_due)) (by decide +kernel)) (fun _ _ _ _ _ => (jc_name (i := 4) nd)) (fun _ _ _ _ _ => (jts_one (jt_cmp (op_eqD hr.units) ok_eq (je_ix ix_U ok_ix (je_var 0) (je_var 4) (fun _ _ => rfl)) (je_str [119]) (nomark _)))) (fun _ _ _ _ _ => (je_var 4)))
      (jss_one (js_ret (je_ite (jt_cmp op_le ok_le (je_var 2) (je_callB call_len ok_len (by rfl) T.nlen bb_len (ja_cons (je_var 3) ja_nil)) (nomark _)) (je_ix ix_U ok_ix (je_var 3) (je_op op_sub ok_sub (je_var 2) je_int) (fun _ _ => rfl)) (je_callB call_len ok_len (by rfl) T.nlen bb_len (ja_cons (je_var 0) ja_nil))))))
abbrev s_law_keeps : Stmt := top 34
theorem sc_law_keeps : FnScope N_law_keeps ["row", "promise"] (defScope s_law_keeps) := ⟨rfl, rfl, rfl, by decide +kernel, rfl, by decide +kernel, by decide +kernel⟩
theorem bi_law_keeps {f : Addr} {fd : FuncData} (F : FnP K "_law_keeps" "_law_keeps" s_law_keeps f fd) : Binds K fd ["row", "promise"] [] := F.bindsN fun _ _ _ _ _ _ us hl => match us, hl with | [_, _], _ => rfl
theorem j_law_keeps (T : Tx K mg) {f : Addr} {fd : FuncData} (F : FnP K "_law_keeps" "_law_keeps" s_law_keeps f fd) (J_law_due : JFn P w K mg base (clK K) 1 "_law_due" 3 m_law_due) : JAt P w K mg base (clK K) 2 f 2 m_law_keeps := by
  have nd := sc_law_keeps.nd
  refine fn_ok (N := N_law_keeps) (ps := ["row", "promise"]) (body := b_law_keeps) F (bi_law_keeps F) sc_law_keeps fun cdv A outer s H E hr tk po => ?_
  exact (jss_cons (js_asg (je_var 1) (jg_tup rfl (jgs_cons (jg_name (i := 2) nd) (jgs_cons (jg_name (i := 3) nd) (jgs_cons (jg_name (i := 4) nd) (jgs_cons (jg_name (i := 5) nd) jgs_nil))))))
      (jss_cons (js_set (i := 6) nd (je_call J_law_due hr (by decide) tk (by rfl) (ja_cons (je_var 0) (ja_cons (je_var 3) (ja_cons (je_var 4) ja_nil)))))
      (jss_one (js_ret (je_or (je_cmp (op_eqD hr.units) ok_eq (je_var 6) (je_var 5) (nomark _)) (je_or (je_and (je_cmp (op_eqD hr.units) ok_eq (je_var 2) (je_str [98, 121]) (nomark _)) (je_one (je_cmp op_lt ok_lt (je_var 6) (je_var 5) (nomark _)))) (je_one (je_and (je_cmp (op_eqD hr.units) ok_eq (je_var 2) (je_str [102, 114, 111, 109]) (nomark _)) (je_one (je_cmp op_gt ok_gt (je_var 6) (je_var 5) (nomark _)))))))))))
abbrev s_law_promise : Stmt := top 35
theorem sc_law_promise : FnScope N_law_promise ["tape", "row"] (defScope s_law_promise) := ⟨rfl, rfl, rfl, by decide +kernel, rfl, by decide +kernel, by decide +kernel⟩
theorem bi_law_promise {f : Addr} {fd : FuncData} (F : FnP K "_law_promise" "_law_promise" s_law_promise f fd) : Binds K fd ["tape", "row"] [] := F.bindsN fun _ _ _ _ _ _ us hl => match us, hl with | [_, _], _ => rfl
theorem j_law_promise (T : Tx K mg) {f : Addr} {fd : FuncData} (F : FnP K "_law_promise" "_law_promise" s_law_promise f fd) (J_law_draw : JFn P w K mg base (clK K) 1 "_law_draw" 2 m_law_draw) (J_law_due : JFn P w K mg base (clK K) 1 "_law_due" 3 m_law_due) : JAt P w K mg base (clK K) 2 f 2 m_law_promise := by
  have nd := sc_law_promise.nd
  refine fn_ok (N := N_law_promise) (ps := ["tape", "row"]) (body := b_law_promise) F (bi_law_promise F) sc_law_promise fun cdv A outer s H E hr tk po => ?_
  exact (jss_cons (js_set (i := 2) nd (je_callB call_len ok_len (by rfl) T.nlen bb_len (ja_cons (je_var 1) ja_nil)))
      (jss_cons (js_set (i := 3) nd (je_op op_sub ok_sub (je_call J_law_draw hr (by decide) tk (by rfl) (ja_cons (je_var 0) (ja_cons (je_var 2) ja_nil))) je_int))
      (jss_cons (js_set (i := 4) nd (je_ix ix_U ok_ix (je_lst (ja_cons (je_str [111, 110]) (ja_cons (je_str [111, 110]) (ja_cons (je_str [98, 121]) (ja_cons (je_str [102, 114, 111, 109]) ja_nil))))) (je_call J_law_draw hr (by decide) tk (by rfl) (ja_cons (je_var 0) (ja_cons je_int ja_nil))) (fun _ _ => rfl)))
      (jss_cons (js_set (i := 5) nd (je_op op_addU ok_add je_int (je_call J_law_draw hr (by decide) tk (by rfl) (ja_cons (je_var 0) (ja_cons (je_callB (call_minU rfl) ok_min (by rfl) T.nmin bb_min (ja_cons (je_var 2) (ja_cons je_int ja_nil))) ja_nil)))))
      (jss_cons (js_set (i := 6) nd (je_call J_law_due hr (by decide) tk (by rfl) (ja_cons (je_var 1) (ja_cons (je_var 3) (ja_cons (je_var 5) ja_nil)))))
      (jss_cons (js_set (i := 7) nd (je_op op_addU ok_add (je_op op_addU ok_add (je_var 3) je_int) (je_call J_law_draw hr (by decide) tk (by rfl) (ja_cons (je_var 0) (ja_cons (je_op op_sub ok_sub (je_op op_sub ok_sub (je_var 2) je_int) (je_var 3)) ja_nil)))))
      (jss_cons (js_if (jt_cmp op_gt ok_gt (je_call J_law_draw hr (by decide) tk (by rfl) (ja_cons (je_var 0) (ja_cons je_int ja_nil))) je_int (nomark _)) (jss_cons (js_if (jt_w (jw_and (jt_cmp (op_eqD hr.units) ok_eq (je_var 4) (je_str [111, 110]) (nomark _)) (jw_and1 (jt_cmp op_lt ok_lt (je_var 6) (je_var 2) (nomark _))))) (jss_one (js_set (i := 7) nd (je_var 6))) jss_nil)
      (jss_cons (js_if (jt_w (jw_and (jt_cmp (op_eqD hr.units) ok_eq (je_var 4) (je_str [98, 121]) (nomark _)) (jw_and1 (jt_cmp op_lt ok_lt (je_var 6) (je_var 2) (nomark _))))) (jss_one (js_set (i := 7) nd (je_op op_addU ok_add (je_var 6) (je_call J_law_draw hr (by decide) tk (by rfl) (ja_cons (je_var 0) (ja_cons (je_op op_sub ok_sub (je_var 2) (je_var 6)) ja_nil)))))) jss_nil)
      (jss_one (js_if (jt_cmp (op_eqD hr.units) ok_eq (je_var 4) (je_str [102, 114, 111, 109]) (nomark _)) (jss_one (js_set (i := 7) nd (je_op op_addU ok_add (je_op op_addU ok_add (je_var 3) je_int) (je_call J_law_draw hr (by decide) tk (by rfl) (ja_cons (je_var 0) (ja_cons (je_op op_sub ok_sub (je_callB (call_minU rfl) ok_min (by rfl) T.nmin bb_min (ja_cons (je_var 6) (ja_cons (je_op op_sub ok_sub (je_var 2) je_int) ja_nil))) (je_var 3)) ja_nil)))))) jss_nil)))) jss_nil)
      (jss_one (js_ret (je_tup (ja_cons (je_var 4) (ja_cons (je_var 3) (ja_cons (je_var 5) (ja_cons (je_var 7) ja_nil))))))))))))))
abbrev s_law_promises : Stmt := top 36
theorem sc_law_promises : FnScope N_law_promises ["tape", "row", "most"] (defScope s_law_promises) := ⟨rfl, rfl, rfl, by decide +kernel, rfl, by decide +kernel, by decide +kernel⟩
theorem bi_law_promises {f : Addr} {fd : FuncData} (F : FnP K "_law_promises" "_law_promises" s_law_promises f fd) : Binds K fd ["tape", "row", "most"] [] := F.bindsN fun _ _ _ _ _ _ us hl => match us, hl with | [_, _, _], _ => rfl
theorem j_law_promises (T : Tx K mg) {f : Addr} {fd : FuncData} (F : FnP K "_law_promises" "_law_promises" s_law_promises f fd) (J_law_draw : JFn P w K mg base (clK K) 1 "_law_draw" 2 m_law_draw) (J_law_promise : JFn P w K mg base (clK K) 2 "_law_promise" 2 m_law_promise) : JAt P w K mg base (clK K) 3 f 3 m_law_promises := by
  have nd := sc_law_promises.nd
  refine fn_ok (N := N_law_promises) (ps := ["tape", "row", "most"]) (body := b_law_promises) F (bi_law_promises F) sc_law_promises fun cdv A outer s H E hr tk po => ?_
  exact (jss_cons (js_set (i := 3) nd (je_tup ja_nil))
      (jss_cons (js_for po rfl (ji_range1 (by rfl) T.nrange (ja_cons (je_call J_law_draw hr (by decide) tk (by rfl) (ja_cons (je_var 0) (ja_cons (je_op op_addU ok_add (je_var 2) je_int) ja_nil))) ja_nil)) (jg_name (i := 4) nd) (jss_one (js_set (i := 3) nd (je_op op_addU ok_add (je_var 3) (je_tup (ja_cons (je_call J_law_promise hr (by decide) tk (by rfl) (ja_cons (je_var 0) (ja_cons (je_var 1) ja_nil))) ja_nil))))))
      (jss_one (js_ret (je_var 3)))))
abbrev s_law_fits : Stmt := top 37
theorem sc_law_fits : FnScope N_law_fits ["row", "known", "promises"] (defScope s_law_fits) := ⟨rfl, rfl, rfl, by decide +kernel, rfl, by decide +kernel, by decide +kernel⟩
theorem bi_law_fits {f : Addr} {fd : FuncData} (F : FnP K "_law_fits" "_law_fits" s_law_fits f fd) : Binds K fd ["row", "known", "promises"] [] := F.bindsN fun _ _ _ _ _ _ us hl => match us, hl with | [_, _, _], _ => rfl
theorem j_law_fits (T : Tx K mg) {f : Addr} {fd : FuncData} (F : FnP K "_law_fits" "_law_fits" s_law_fits f fd) (J_law_keeps : JFn P w K mg base (clK K) 2 "_law_keeps" 2 m_law_keeps) : JAt P w K mg base (clK K) 3 f 3 m_law_fits := by
  have nd := sc_law_fits.nd
  refine fn_ok (N := N_law_fits) (ps := ["row", "known", "promises"]) (body := b_law_fits) F (bi_law_fits F) sc_law_fits fun cdv A outer s H E hr tk po => ?_
  exact (jss_cons (js_if (jt_cmp (op_neD hr.units) ok_ne (je_lc rfl nd (ji_zip (by rfl) T.nzip (ja_cons (je_var 0) (ja_cons (je_var 1) ja_nil))) (blkOk_by (own := [("letter", 3), ("other", 4)]) (N := N_law_fits) (sc := (defScope s_law_fits)) (by decide +kernel)) (fun _ _ _ _ _ => (jc_tup rfl (jcs_cons (jc_name (i := 3) nd) (jcs_cons (jc_name (i := 4) nd) jcs_nil)))) (fun _ _ _ _ _ => (jts_one (jt_cmp (op_ninU (un65 hr)) ok_nin (je_var 4) (je_tup (ja_cons (je_var 3) (ja_cons (je_str [63]) ja_nil))) (by rfl)))) (fun _ _ _ _ _ => je_int)) (je_lst ja_nil) (nomark _)) (jss_one (js_ret je_bl)) jss_nil)
      (jss_one (js_ret (je_cmp (op_eqD hr.units) ok_eq (je_lc rfl nd (ji_any (je_var 2)) (blkOk_by (own := [("promise", 5)]) (N := N_law_fits) (sc := (defScope s_law_fits)) (by decide +kernel)) (fun _ _ _ _ _ => (jc_name (i := 5) nd)) (fun _ _ _ _ _ => (jts_one (jt_not (jt_val (je_call J_law_keeps hr (by decide) takes0 (by rfl) (ja_cons (je_var 0) (ja_cons (je_var 5) ja_nil))))))) (fun _ _ _ _ _ => (je_var 5))) (je_lst ja_nil) (nomark _)))))
abbrev s_law_rows : Stmt := top 38
theorem sc_law_rows : FnScope N_law_rows ["known", "promises"] (defScope s_law_rows) := ⟨rfl, rfl, rfl, by decide +kernel, rfl, by decide +kernel, by decide +kernel⟩
theorem bi_law_rows {f : Addr} {fd : FuncData} (F : FnP K "_law_rows" "_law_rows" s_law_rows f fd) : Binds K fd ["known", "promises"] [] := F.bindsN fun _ _ _ _ _ _ us hl => match us, hl with | [_, _], _ => rfl
theorem j_law_rows (T : Tx K mg) {f : Addr} {fd : FuncData} (F : FnP K "_law_rows" "_law_rows" s_law_rows f fd) (J_law_fits : JFn P w K mg base (clK K) 3 "_law_fits" 3 m_law_fits) : JAt P w K mg base (clK K) 4 f 2 m_law_rows := by
  have nd := sc_law_rows.nd
  refine fn_ok (N := N_law_rows) (ps := ["known", "promises"]) (body := b_law_rows) F (bi_law_rows F) sc_law_rows fun cdv A outer s H E hr tk po => ?_
  exact (jss_cons (js_set (i := 2) nd (je_lst (ja_cons (je_str []) ja_nil)))
      (jss_cons (js_for po rfl (ji_any (je_var 0)) (jg_name (i := 3) nd) (jss_cons (js_set (i := 4) nd (je_lst ja_nil))
      (jss_cons (js_for po rfl (ji_any (je_var 2)) (jg_name (i := 5) nd) (jss_one (js_set (i := 4) nd (je_op op_addU ok_add (je_var 4) (je_lc rfl nd (ji_any (je_str [102, 119])) (blkOk_by (own := [("own", 6)]) (N := N_law_rows) (sc := (defScope s_law_rows)) (by decide +kernel)) (fun _ _ _ _ _ => (jc_name (i := 6) nd)) (fun _ _ _ _ _ => (jts_one (jt_cmp (op_inU (un65 hr)) ok_in (je_var 3) (je_tup (ja_cons (je_var 6) (ja_cons (je_str [63]) ja_nil))) (by rfl)))) (fun _ _ _ _ _ => (je_op op_addU ok_add (je_var 5) (je_var 6))))))))
      (jss_one (js_set (i := 2) nd (je_var 4))))))
      (jss_one (js_ret (je_lc rfl nd (ji_any (je_var 2)) (blkOk_by (own := [("row", 5)]) (N := N_law_rows) (sc := (defScope s_law_rows)) (by decide +kernel)) (fun _ _ _ _ _ => (jc_name (i := 5) nd)) (fun _ _ _ _ _ => (jts_one (jt_val (je_call J_law_fits hr (by decide) takes0 (by rfl) (ja_cons (je_var 5) (ja_cons (je_var 0) (ja_cons (je_var 1) ja_nil))))))) (fun _ _ _ _ _ => (je_var 5)))))))
abbrev s_law_log : Stmt := top 39
theorem sc_law_log : FnScope N_law_log ["known", "promises"] (defScope s_law_log) := ⟨rfl, rfl, rfl, by decide +kernel, rfl, by decide +kernel, by decide +kernel⟩
theorem bi_law_log {f : Addr} {fd : FuncData} (F : FnP K "_law_log" "_law_log" s_law_log f fd) : Binds K fd ["known", "promises"] [] := F.bindsN fun _ _ _ _ _ _ us hl => match us, hl with | [_, _], _ => rfl
theorem j_law_log (T : Tx K mg) {f : Addr} {fd : FuncData} (F : FnP K "_law_log" "_law_log" s_law_log f fd) (J_LogD__initD_ : JMk P w K mg base (clK K) 3 2 2 m_LogD__initD_) (J_Log_add : JMt P w K mg base (clK K) 5 2 "add" 5 m_Log_add) : JAt P w K mg base (clK K) 6 f 2 m_law_log := by
  have nd := sc_law_log.nd
  refine fn_okK (N := N_law_log) (ps := ["known", "promises"]) (body := b_law_log) F (bi_law_log F) sc_law_log fun cdv A outer s H E hr tk po => ?_
  exact (jss_cons (js_set (i := 2) nd (je_make rfl J_LogD__initD_ hr (by decide) tk (by rfl) (ja_cons (je_var 0) ja_nil)))
      (jss_cons (js_for po rfl (ji_any (je_var 1)) (jg_tup rfl (jgs_cons (jg_name (i := 3) nd) (jgs_cons (jg_name (i := 4) nd) (jgs_cons (jg_name (i := 5) nd) (jgs_cons (jg_name (i := 6) nd) jgs_nil))))) (jss_one (js_expr (je_meth J_Log_add T.kLog hr (by decide) tk (je_var 2) (ja_cons (je_var 3) (ja_cons (je_var 4) (ja_cons (je_var 5) (ja_cons (je_var 6) ja_nil))))))))
      (jss_one (js_ret (je_var 2)))))
abbrev s_law_tried : Stmt := top 40
theorem sc_law_tried : FnScope N_law_tried ["log", "some"] (defScope s_law_tried) := ⟨rfl, rfl, rfl, by decide +kernel, rfl, by decide +kernel, by decide +kernel⟩
theorem bi_law_tried {f : Addr} {fd : FuncData} (F : FnP K "_law_tried" "_law_tried" s_law_tried f fd) : Binds K fd ["log", "some"] [] := F.bindsN fun _ _ _ _ _ _ us hl => match us, hl with | [_, _], _ => rfl
theorem j_law_tried (T : Tx K mg) {f : Addr} {fd : FuncData} (F : FnP K "_law_tried" "_law_tried" s_law_tried f fd) (J_Log_try_all_v1 : JSt P w K mg base (clK K) 5 2 "try_all" 1 m_Log_try_all_v1) : JAt P w K mg base (clK K) 6 f 2 m_law_tried := by
  have nd := sc_law_tried.nd
  refine fn_ok (N := N_law_tried) (ps := ["log", "some"]) (body := b_law_tried) F (bi_law_tried F) sc_law_tried fun cdv A outer s H E hr tk po => ?_
  exact (jss_cons (js_if (jt_cmp (op_eqD hr.units) ok_eq (je_callB call_len ok_len (by rfl) T.nlen bb_len (ja_cons (je_var 1) ja_nil)) je_int (nomark _)) (jss_one (js_ret (je_methS0 J_Log_try_all_v1 T.kLog hr (by decide) (je_var 0)))) jss_nil)
      (jss_cons (js_if (jt_cmp (op_eqD hr.units) ok_eq (je_callB call_len ok_len (by rfl) T.nlen bb_len (ja_cons (je_var 1) ja_nil)) je_int (nomark _)) (jss_one (js_ret (je_methS J_Log_try_all_v1 T.kLog hr (by decide) (je_var 0) (ja_cons (je_ix ix_U ok_ix (je_var 1) je_int (fun _ _ => rfl)) ja_nil)))) jss_nil)
      (jss_one (js_ret (je_ite (jt_cmp (op_eqD hr.units) ok_eq (je_callB call_len ok_len (by rfl) T.nlen bb_len (ja_cons (je_var 1) ja_nil)) je_int (nomark _)) (je_methS J_Log_try_all_v1 T.kLog hr (by decide) (je_var 0) (ja_cons (je_ix ix_U ok_ix (je_var 1) je_int (fun _ _ => rfl)) (ja_cons (je_ix ix_U ok_ix (je_var 1) je_int (fun _ _ => rfl)) ja_nil))) (je_methS J_Log_try_all_v1 T.kLog hr (by decide) (je_var 0) (ja_cons (je_ix ix_U ok_ix (je_var 1) je_int (fun _ _ => rfl)) (ja_cons (je_ix ix_U ok_ix (je_var 1) je_int (fun _ _ => rfl)) (ja_cons (je_ix ix_U ok_ix (je_var 1) je_int (fun _ _ => rfl)) ja_nil)))))))))
abbrev s_law_k17 : Stmt := top 41
theorem sc_law_k17 : FnScope N_law_k17 ["script"] (defScope s_law_k17) := ⟨rfl, rfl, rfl, by decide +kernel, rfl, by decide +kernel, by decide +kernel⟩
theorem bi_law_k17 {f : Addr} {fd : FuncData} (F : FnP K "law" "law" s_law_k17 f fd) : Binds K fd ["script"] [] := F.bindsN fun _ _ _ _ _ _ us hl => match us, hl with | [_], _ => rfl
theorem j_law_k17 (T : Tx K mg) {f : Addr} {fd : FuncData} (F : FnP K "law" "law" s_law_k17 f fd) (J_law_draw : JFn P w K mg base (clK K) 1 "_law_draw" 2 m_law_draw) (J_law_row : JFn P w K mg base (clK K) 2 "_law_row" 2 m_law_row) (J_law_masked : JFn P w K mg base (clK K) 2 "_law_masked" 2 m_law_masked) (J_law_promises : JFn P w K mg base (clK K) 3 "_law_promises" 3 m_law_promises) (J_law_keeps : JFn P w K mg base (clK K) 2 "_law_keeps" 2 m_law_keeps) (J_law_log : JFn P w K mg base (clK K) 6 "_law_log" 2 m_law_log) (J_law_promise : JFn P w K mg base (clK K) 2 "_law_promise" 2 m_law_promise) (J_are_promises : JFn P w K mg base (clK K) 3 "are_promises" 2 m_are_promises) (J_law_rows : JFn P w K mg base (clK K) 4 "_law_rows" 2 m_law_rows) (J_law_tried : JFn P w K mg base (clK K) 6 "_law_tried" 2 m_law_tried) (J_law_like : JFn P w K mg base (clK K) 5 "_law_like" 2 m_law_like) (J_Log_promises : JPr P w K mg base (clK K) 1 2 "promises" m_Log_promises) (J_Log_states : JPr P w K mg base (clK K) 1 2 "states" m_Log_states) (J_day_states : JFn P w K mg base (clK K) 3 "day_states" 2 m_day_states) (J_LogD__eqD_ : JMt P w K mg base (clK K) 1 2 "__eq__" 2 m_LogD__eqD_) (J_Log_undo : JMt P w K mg base (clK K) 5 2 "undo" 1 m_Log_undo) : FnOk P w K mg base (L2.CX P w) 7 f fd ["script"] (SpF K (clK K) 1 m_law_k17) := by
  have nd := sc_law_k17.nd
  refine fn_fo (N := N_law_k17) (ps := ["script"]) (body := b_law_k17) F sc_law_k17 fun cdv A outer s H E hr tk po => ?_
  exact (jss_cons (js_set (i := 1) nd (je_own (ja_cons (je_callTy call_list_of ok_list (by rfl) T.nlist bb_list (ja_cons (je_var 0) ja_nil)) (ja_cons je_int (ja_cons je_int ja_nil)))))
      (jss_cons (js_for po rfl (ji_range1 (by rfl) T.nrange (ja_cons je_int ja_nil)) (jg_name (i := 2) nd) (jss_cons (js_set (i := 3) nd (je_call J_law_row hr (by decide) tk (by rfl) (ja_cons (je_var 1) (ja_cons (je_op op_addU ok_add je_int (je_call J_law_draw hr (by decide) tk (by rfl) (ja_cons (je_var 1) (ja_cons je_int ja_nil)))) ja_nil))))
      (jss_cons (js_set (i := 4) nd (je_call J_law_masked hr (by decide) tk (by rfl) (ja_cons (je_var 1) (ja_cons (je_var 3) ja_nil))))
      (jss_cons (js_set (i := 5) nd (je_callTy call_tupU ok_tuple (by rfl) T.ntuple bb_tuple (ja_cons (je_lc rfl nd (ji_any (je_call J_law_promises hr (by decide) tk (by rfl) (ja_cons (je_var 1) (ja_cons (je_var 3) (ja_cons je_int ja_nil))))) (blkOk_by (own := [("own", 13)]) (N := N_law_k17) (sc := (defScope s_law_k17)) (by decide +kernel)) (fun _ _ _ _ _ => (jc_name (i := 13) nd)) (fun _ _ _ _ _ => (jts_one (jt_val (je_call J_law_keeps hr (by decide) takes0 (by rfl) (ja_cons (je_var 3) (ja_cons (je_var 13) ja_nil)))))) (fun _ _ _ _ _ => (je_var 13))) ja_nil)))
      (jss_cons (js_par (i := 6) (j := 7) rfl nd (by decide) (ja_cons (je_call J_law_log hr (by decide) tk (by rfl) (ja_cons (je_var 4) (ja_cons (je_var 5) ja_nil))) (ja_cons (je_tup ja_nil) ja_nil)))
      (jss_cons (js_for po rfl (ji_range1 (by rfl) T.nrange (ja_cons (je_call J_law_draw hr (by decide) tk (by rfl) (ja_cons (je_var 1) (ja_cons je_int ja_nil))) ja_nil)) (jg_name (i := 8) nd) (jss_one (js_set (i := 7) nd (je_op op_addU ok_add (je_var 7) (je_tup (ja_cons (je_call J_law_promise hr (by decide) tk (by rfl) (ja_cons (je_var 1) (ja_cons (je_var 3) ja_nil))) ja_nil))))))
      (jss_cons (js_if (jt_w (jw_and (jt_cmp (op_neD hr.units) ok_ne (je_var 7) (je_tup ja_nil) (nomark _)) (jw_and1 (jt_cmp (op_eqD hr.units) ok_eq (je_call J_law_draw hr (by decide) tk (by rfl) (ja_cons (je_var 1) (ja_cons je_int ja_nil))) je_int (nomark _))))) (jss_cons (js_set (i := 9) nd (je_lst (ja_cons je_non (ja_cons (je_tup ja_nil) (ja_cons (je_str [111, 110]) (ja_cons (je_tup (ja_cons (je_str [111, 110]) (ja_cons je_int (ja_cons je_int ja_nil)))) (ja_cons (je_lst (ja_cons (je_str [98, 121]) (ja_cons (je_un un_neg ok_neg je_int) (ja_cons je_int (ja_cons je_int ja_nil))))) (ja_cons (je_tup (ja_cons (je_str [97, 116]) (ja_cons (je_un un_neg ok_neg je_int) (ja_cons je_int (ja_cons je_int ja_nil))))) (ja_cons je_int ja_nil)))))))))
      (jss_one (js_set (i := 7) nd (je_op op_addU ok_add (je_sl sl_U ok_sl (je_var 7) jo_none (jo_some (je_un un_neg ok_neg je_int))) (je_tup (ja_cons (je_ix ix_U ok_ix (je_var 9) (je_call J_law_draw hr (by decide) tk (by rfl) (ja_cons (je_var 1) (ja_cons je_int ja_nil))) (fun _ _ => rfl)) ja_nil)))))) jss_nil)
      (jss_cons (js_set (i := 10) nd (je_call J_are_promises hr (by decide) tk (by rfl) (ja_cons (je_var 4) (ja_cons (je_op op_addU ok_add (je_var 5) (je_var 7)) ja_nil))))
      (jss_cons (js_set (i := 10) nd (je_and (je_var 10) (je_one (je_cmp (op_neD hr.units) ok_ne (je_call J_law_rows hr (by decide) tk (by rfl) (ja_cons (je_var 4) (ja_cons (je_op op_addU ok_add (je_var 5) (je_var 7)) ja_nil))) (je_lst ja_nil) (nomark _)))))
      (jss_cons (js_if (jt_not (jt_val (je_call J_law_like hr (by decide) tk (by rfl) (ja_cons (je_call J_law_tried hr (by decide) tk (by rfl) (ja_cons (je_var 6) (ja_cons (je_var 7) ja_nil))) (ja_cons (je_var 10) ja_nil))))) (jss_one (js_ret je_bl)) jss_nil)
      (jss_cons (js_set (i := 11) nd (je_ite (jt_val (je_var 10)) (je_op op_addU ok_add (je_var 5) (je_var 7)) (je_var 5)))
      (jss_cons (js_if (jt_w (jw_or (jt_cmp (op_neD hr.units) ok_ne (je_prop J_Log_promises T.kLog hr (by decide) (je_var 6)) (je_var 11) (nomark _)) (jw_or (jt_cmp (op_neD hr.units) ok_ne (je_prop J_Log_states T.kLog hr (by decide) (je_var 6)) (je_call J_day_states hr (by decide) tk (by rfl) (ja_cons (je_var 4) (ja_cons (je_var 11) ja_nil))) (nomark _)) (jw_or1 (jt_neO T.oLog J_LogD__eqD_ hr (by decide) (je_var 6) (je_call J_law_log hr (by decide) tk (by rfl) (ja_cons (je_var 4) (ja_cons (je_var 11) ja_nil)))))))) (jss_one (js_ret je_bl)) jss_nil)
      (jss_one (js_if (jt_val (je_var 10)) (jss_cons (js_expr (je_meth0 J_Log_undo T.kLog hr (by decide) tk (je_var 6)))
      (jss_cons (js_if (jt_w (jw_or (jt_cmp (op_neD hr.units) ok_ne (je_prop J_Log_promises T.kLog hr (by decide) (je_var 6)) (je_var 5) (nomark _)) (jw_or1 (jt_cmp (op_neD hr.units) ok_ne (je_prop J_Log_states T.kLog hr (by decide) (je_var 6)) (je_call J_day_states hr (by decide) tk (by rfl) (ja_cons (je_var 4) (ja_cons (je_var 5) ja_nil))) (nomark _))))) (jss_one (js_ret je_bl)) jss_nil)
      (jss_cons (js_set (i := 12) nd (je_call J_law_log hr (by decide) tk (by rfl) (ja_cons (je_var 4) (ja_cons (je_var 5) ja_nil))))
      (jss_one (js_if (jt_w (jw_or (jt_cmp op_isntU ok_isnt (je_call J_law_tried hr (by decide) tk (by rfl) (ja_cons (je_var 12) (ja_cons (je_revT (je_var 7)) ja_nil))) je_bl (nomark _)) (jw_or1 (jt_cmp (op_neD hr.units) ok_ne (je_prop J_Log_states T.kLog hr (by decide) (je_var 12)) (je_call J_day_states hr (by decide) tk (by rfl) (ja_cons (je_var 4) (ja_cons (je_var 11) ja_nil))) (nomark _))))) (jss_one (js_ret je_bl)) jss_nil))))) jss_nil))))))))))))))
      (jss_one (js_ret je_bl))))
end
def dd_first_bounds : He.DefD := ⟨("first_bounds", none), "first_bounds", "first_bounds", defArgs s_first_bounds, defBody s_first_bounds, defScope s_first_bounds, [], []⟩
def dd_all_bounds : He.DefD := ⟨("all_bounds", none), "all_bounds", "all_bounds", defArgs s_all_bounds, defBody s_all_bounds, defScope s_all_bounds, [], []⟩
def dd_is_possible : He.DefD := ⟨("is_possible", none), "is_possible", "is_possible", defArgs s_is_possible, defBody s_is_possible, defScope s_is_possible, [], []⟩
def dd_range_of : He.DefD := ⟨("range_of", none), "range_of", "range_of", defArgs s_range_of, defBody s_range_of, defScope s_range_of, [], []⟩
def dd_day_states : He.DefD := ⟨("day_states", none), "day_states", "day_states", defArgs s_day_states, defBody s_day_states, defScope s_day_states, [], []⟩
def dd_is_integer : He.DefD := ⟨("is_integer", none), "is_integer", "is_integer", defArgs s_is_integer, defBody s_is_integer, defScope s_is_integer, [], []⟩
def dd_are_letters : He.DefD := ⟨("are_letters", none), "are_letters", "are_letters", defArgs s_are_letters, defBody s_are_letters, defScope s_are_letters, [], []⟩
def dd_is_known_rows : He.DefD := ⟨("is_known_rows", none), "is_known", "is_known", defArgs s_is_known_rows, defBody s_is_known_rows, defScope s_is_known_rows, [], []⟩
def dd_is_promise : He.DefD := ⟨("is_promise", none), "is_promise", "is_promise", defArgs s_is_promise, defBody s_is_promise, defScope s_is_promise, [], []⟩
def dd_are_promises : He.DefD := ⟨("are_promises", none), "are_promises", "are_promises", defArgs s_are_promises, defBody s_are_promises, defScope s_are_promises, [], []⟩
def dd_LogD__initD_ : He.DefD := ⟨("Log", some "__init__"), "__init__", "Log.__init__", defArgs s_LogD__initD_, defBody s_LogD__initD_, defScope s_LogD__initD_, [], []⟩
def dx_Log_promises : DefX := ⟨recA "Log" "promises" "property", "promises", "Log.promises", defArgs s_Log_promises, defBody s_Log_promises, defScope s_Log_promises, []⟩
def dx_Log_states : DefX := ⟨recA "Log" "states" "property", "states", "Log.states", defArgs s_Log_states, defBody s_Log_states, defScope s_Log_states, []⟩
def dd_Log_become : He.DefD := ⟨("Log", some "become"), "become", "Log.become", defArgs s_Log_become, defBody s_Log_become, defScope s_Log_become, [], []⟩
def dd_Log_check : He.DefD := ⟨("Log", some "check"), "check", "Log.check", defArgs s_Log_check, defBody s_Log_check, defScope s_Log_check, [], []⟩
def dd_Log_add : He.DefD := ⟨("Log", some "add"), "add", "Log.add", defArgs s_Log_add, defBody s_Log_add, defScope s_Log_add, [], []⟩
def dd_Log_try_all_v1 : He.DefD := ⟨("Log", some "try_all"), "try_all", "Log.try_all", defArgs s_Log_try_all_v1, defBody s_Log_try_all_v1, defScope s_Log_try_all_v1, [], []⟩
def dd_Log_undo : He.DefD := ⟨("Log", some "undo"), "undo", "Log.undo", defArgs s_Log_undo, defBody s_Log_undo, defScope s_Log_undo, [], []⟩
def dd_LogD__eqD_ : He.DefD := ⟨("Log", some "__eq__"), "__eq__", "Log.__eq__", defArgs s_LogD__eqD_, defBody s_LogD__eqD_, defScope s_LogD__eqD_, [], []⟩
def dd_law_draw : He.DefD := ⟨("_law_draw", none), "_law_draw", "_law_draw", defArgs s_law_draw, defBody s_law_draw, defScope s_law_draw, [], []⟩
def dd_law_like : He.DefD := ⟨("_law_like", none), "_law_like", "_law_like", defArgs s_law_like, defBody s_law_like, defScope s_law_like, [], []⟩
def dd_law_row : He.DefD := ⟨("_law_row", none), "_law_row", "_law_row", defArgs s_law_row, defBody s_law_row, defScope s_law_row, [], []⟩
def dd_law_masked : He.DefD := ⟨("_law_masked", none), "_law_masked", "_law_masked", defArgs s_law_masked, defBody s_law_masked, defScope s_law_masked, [], []⟩
def dd_law_due : He.DefD := ⟨("_law_due", none), "_law_due", "_law_due", defArgs s_law_due, defBody s_law_due, defScope s_law_due, [], []⟩
def dd_law_keeps : He.DefD := ⟨("_law_keeps", none), "_law_keeps", "_law_keeps", defArgs s_law_keeps, defBody s_law_keeps, defScope s_law_keeps, [], []⟩
def dd_law_promise : He.DefD := ⟨("_law_promise", none), "_law_promise", "_law_promise", defArgs s_law_promise, defBody s_law_promise, defScope s_law_promise, [], []⟩
def dd_law_promises : He.DefD := ⟨("_law_promises", none), "_law_promises", "_law_promises", defArgs s_law_promises, defBody s_law_promises, defScope s_law_promises, [], []⟩
def dd_law_fits : He.DefD := ⟨("_law_fits", none), "_law_fits", "_law_fits", defArgs s_law_fits, defBody s_law_fits, defScope s_law_fits, [], []⟩
def dd_law_rows : He.DefD := ⟨("_law_rows", none), "_law_rows", "_law_rows", defArgs s_law_rows, defBody s_law_rows, defScope s_law_rows, [], []⟩
def dd_law_log : He.DefD := ⟨("_law_log", none), "_law_log", "_law_log", defArgs s_law_log, defBody s_law_log, defScope s_law_log, [], []⟩
def dd_law_tried : He.DefD := ⟨("_law_tried", none), "_law_tried", "_law_tried", defArgs s_law_tried, defBody s_law_tried, defScope s_law_tried, [], []⟩
def dd_law_k17 : He.DefD := ⟨("law", none), "law", "law", defArgs s_law_k17, defBody s_law_k17, defScope s_law_k17, [], []⟩
def fn : List He.DefD := [dd_first_bounds, dd_all_bounds, dd_is_possible, dd_range_of, dd_day_states, dd_is_integer, dd_are_letters, dd_is_known_rows, dd_is_promise, dd_are_promises, dd_LogD__initD_, dd_Log_become, dd_Log_check, dd_Log_add, dd_Log_try_all_v1, dd_Log_undo, dd_LogD__eqD_, dd_law_draw, dd_law_like, dd_law_row, dd_law_masked, dd_law_due, dd_law_keeps, dd_law_promise, dd_law_promises, dd_law_fits, dd_law_rows, dd_law_log, dd_law_tried, dd_law_k17]
def fx : List DefX := [dx_Log_promises, dx_Log_states]
def fb : List Fb := [.tup "KINDS" [[111, 110], [98, 121], [102, 114, 111, 109]], .ops "Log", .isi "Log", .prop "Log" "promises", .prop "Log" "states"]
def fa : List He.Fa := [.glo "first_bounds", .glo "all_bounds", .glo "is_possible", .glo "range_of", .glo "day_states", .glo "is_integer", .glo "are_letters", .glo "is_known_rows", .glo "is_promise", .glo "are_promises", .glo "_law_draw", .glo "_law_like", .glo "_law_row", .glo "_law_masked", .glo "_law_due", .glo "_law_keeps", .glo "_law_promise", .glo "_law_promises", .glo "_law_fits", .glo "_law_rows", .glo "_law_log", .glo "_law_tried", .glo "law", .free "len", .free "range", .free "enumerate", .free "int", .free "min", .free "all", .free "isinstance", .free "bool", .free "str", .free "tuple", .free "list", .free "zip", .int "FAR" 99, .int "MOST_DAYS" 31, .int "MOST_PROMISES" 6, .glo "KINDS", .cls "Log", .noat "Log" "days", .noat "Log" "held", .noat "Log" "letters", .noat "Log" "earlier", .glo "Log", .exc "InvalidRow", .glo "InvalidRow", .exc "InvalidPromise", .glo "InvalidPromise", .exc "TooMany", .glo "TooMany", .exc "Contradiction", .glo "Contradiction", .exc "NothingToUndo", .glo "NothingToUndo", .exm "InvalidPromise" "InvalidPromise" true, .exm "Contradiction" "InvalidPromise" false, .exm "TooMany" "InvalidPromise" false, .exm "InvalidPromise" "TooMany" false, .exm "Contradiction" "TooMany" false, .exm "TooMany" "TooMany" true, .exm "InvalidPromise" "Contradiction" false, .exm "Contradiction" "Contradiction" true, .exm "TooMany" "Contradiction" false, .meth "Log" "become", .meth "Log" "check", .meth "Log" "add", .meth "Log" "try_all", .meth "Log" "undo", .meth "Log" "__eq__", .mkr "Log"]
abbrev R : PySem.W.OpenRow := PySem.W.OpenLaw.row PySem.Challenge.rw_workdaylogs_k17_whole_promises_at_once
abbrev hk : PySem.W.Hook := hookU 6 fa fn fb fx
def ob (s : PySem.W.SharedT) : AlU := obsUG 6 fa fn fb fx (HandSHeadRun.getT s)
theorem ob_eq (s : PySem.W.SharedT) : ob s = hk.obs s.abs := obsUG_eq (HandSHeadRun.getT_eq s)
def loose : List Str := (["_wall", "FAR", "first_bounds", "all_bounds", "is_possible", "range_of", "day_states", "DayError", "InvalidRow", "InvalidPromise", "NoSuchDay", "Contradiction", "TooMany", "NothingToUndo", "MOST_DAYS", "MOST_PROMISES"] : List Str) ++ (["KINDS", "is_integer", "are_letters", "is_known", "is_known_rows", "is_promise", "are_promises", "Log", "_law_draw", "_law_like", "_law_row", "_law_masked", "_law_due", "_law_keeps", "_law_promise", "_law_promises"] : List Str) ++ (["_law_fits", "_law_rows", "_law_log", "_law_tried"] : List Str)
theorem run (w : World) : HandSHeadRun.RunEq R (PySem.W.view R.prog [41]) hk ob 12000 loose w := by
  intro os
  kernel_rfl
theorem facts {P : Program} {w : World} {K : PySem.W.Frag} {h : Heap} {mg : Str → Option Value} {f : Addr} (X : K.In h) (G : h.Ns mainGlobals mg) (hfa : mg ("law" : Str) = some (.ref f)) (c0 : SaysU fa fn fb fx K) :
    ∃ fd : FuncData, (∀ (s : Shared) (v : Value), BindsTo s fd ⟨[v], []⟩ [("script", v)]) ∧ ∀ base : Heap, K.In base → base.Ns mainGlobals mg → FnOk P w K mg base (L2.CX P w) 7 f fd ["script"] (SpF K (clK K) 1 m_law_k17) := by
  have c := c0.d
  obtain ⟨fd_first_bounds, F_first_bounds⟩ := c.def_ 0 (d := dd_first_bounds) rfl
  obtain ⟨fd_all_bounds, F_all_bounds⟩ := c.def_ 1 (d := dd_all_bounds) rfl
  obtain ⟨fd_is_possible, F_is_possible⟩ := c.def_ 2 (d := dd_is_possible) rfl
  obtain ⟨fd_range_of, F_range_of⟩ := c.def_ 3 (d := dd_range_of) rfl
  obtain ⟨fd_day_states, F_day_states⟩ := c.def_ 4 (d := dd_day_states) rfl
  obtain ⟨fd_is_integer, F_is_integer⟩ := c.def_ 5 (d := dd_is_integer) rfl
  obtain ⟨fd_are_letters, F_are_letters⟩ := c.def_ 6 (d := dd_are_letters) rfl
  obtain ⟨fd_is_known_rows, F_is_known_rows⟩ := c.def_ 7 (d := dd_is_known_rows) rfl
  obtain ⟨fd_is_promise, F_is_promise⟩ := c.def_ 8 (d := dd_is_promise) rfl
  obtain ⟨fd_are_promises, F_are_promises⟩ := c.def_ 9 (d := dd_are_promises) rfl
  obtain ⟨fd_LogD__initD_, F_LogD__initD_⟩ := c.def_ 10 (d := dd_LogD__initD_) rfl
  obtain ⟨fd_Log_become, F_Log_become⟩ := c.def_ 11 (d := dd_Log_become) rfl
  obtain ⟨fd_Log_check, F_Log_check⟩ := c.def_ 12 (d := dd_Log_check) rfl
  obtain ⟨fd_Log_add, F_Log_add⟩ := c.def_ 13 (d := dd_Log_add) rfl
  obtain ⟨fd_Log_try_all_v1, F_Log_try_all_v1⟩ := c.def_ 14 (d := dd_Log_try_all_v1) rfl
  obtain ⟨fd_Log_undo, F_Log_undo⟩ := c.def_ 15 (d := dd_Log_undo) rfl
  obtain ⟨fd_LogD__eqD_, F_LogD__eqD_⟩ := c.def_ 16 (d := dd_LogD__eqD_) rfl
  obtain ⟨fd_law_draw, F_law_draw⟩ := c.def_ 17 (d := dd_law_draw) rfl
  obtain ⟨fd_law_like, F_law_like⟩ := c.def_ 18 (d := dd_law_like) rfl
  obtain ⟨fd_law_row, F_law_row⟩ := c.def_ 19 (d := dd_law_row) rfl
  obtain ⟨fd_law_masked, F_law_masked⟩ := c.def_ 20 (d := dd_law_masked) rfl
  obtain ⟨fd_law_due, F_law_due⟩ := c.def_ 21 (d := dd_law_due) rfl
  obtain ⟨fd_law_keeps, F_law_keeps⟩ := c.def_ 22 (d := dd_law_keeps) rfl
  obtain ⟨fd_law_promise, F_law_promise⟩ := c.def_ 23 (d := dd_law_promise) rfl
  obtain ⟨fd_law_promises, F_law_promises⟩ := c.def_ 24 (d := dd_law_promises) rfl
  obtain ⟨fd_law_fits, F_law_fits⟩ := c.def_ 25 (d := dd_law_fits) rfl
  obtain ⟨fd_law_rows, F_law_rows⟩ := c.def_ 26 (d := dd_law_rows) rfl
  obtain ⟨fd_law_log, F_law_log⟩ := c.def_ 27 (d := dd_law_log) rfl
  obtain ⟨fd_law_tried, F_law_tried⟩ := c.def_ 28 (d := dd_law_tried) rfl
  obtain ⟨fd_law_k17, F_law_k17⟩ := c.def_ 29 (d := dd_law_k17) rfl
  obtain ⟨fd_Log_promises, F_Log_promises⟩ := c0.more 0 (d := dx_Log_promises) rfl
  obtain ⟨fd_Log_states, F_Log_states⟩ := c0.more 1 (d := dx_Log_states) rfl
  have g_first_bounds := He.glo_ok X G (c.fact 0 (f := .glo "first_bounds") rfl)
  have g_all_bounds := He.glo_ok X G (c.fact 1 (f := .glo "all_bounds") rfl)
  have g_is_possible := He.glo_ok X G (c.fact 2 (f := .glo "is_possible") rfl)
  have g_range_of := He.glo_ok X G (c.fact 3 (f := .glo "range_of") rfl)
  have g_day_states := He.glo_ok X G (c.fact 4 (f := .glo "day_states") rfl)
  have g_is_integer := He.glo_ok X G (c.fact 5 (f := .glo "is_integer") rfl)
  have g_are_letters := He.glo_ok X G (c.fact 6 (f := .glo "are_letters") rfl)
  have g_is_known_rows := He.glo_ok X G (c.fact 7 (f := .glo "is_known_rows") rfl)
  have g_is_promise := He.glo_ok X G (c.fact 8 (f := .glo "is_promise") rfl)
  have g_are_promises := He.glo_ok X G (c.fact 9 (f := .glo "are_promises") rfl)
  have g_law_draw := He.glo_ok X G (c.fact 10 (f := .glo "_law_draw") rfl)
  have g_law_like := He.glo_ok X G (c.fact 11 (f := .glo "_law_like") rfl)
  have g_law_row := He.glo_ok X G (c.fact 12 (f := .glo "_law_row") rfl)
  have g_law_masked := He.glo_ok X G (c.fact 13 (f := .glo "_law_masked") rfl)
  have g_law_due := He.glo_ok X G (c.fact 14 (f := .glo "_law_due") rfl)
  have g_law_keeps := He.glo_ok X G (c.fact 15 (f := .glo "_law_keeps") rfl)
  have g_law_promise := He.glo_ok X G (c.fact 16 (f := .glo "_law_promise") rfl)
  have g_law_promises := He.glo_ok X G (c.fact 17 (f := .glo "_law_promises") rfl)
  have g_law_fits := He.glo_ok X G (c.fact 18 (f := .glo "_law_fits") rfl)
  have g_law_rows := He.glo_ok X G (c.fact 19 (f := .glo "_law_rows") rfl)
  have g_law_log := He.glo_ok X G (c.fact 20 (f := .glo "_law_log") rfl)
  have g_law_tried := He.glo_ok X G (c.fact 21 (f := .glo "_law_tried") rfl)
  have g_law_k17 := He.glo_ok X G (c.fact 22 (f := .glo "law") rfl)
  have T : Tx K mg := ⟨He.free_ok X G (c.fact 23 (f := .free "len") rfl), He.free_ok X G (c.fact 24 (f := .free "range") rfl), He.free_ok X G (c.fact 25 (f := .free "enumerate") rfl), He.free_ok X G (c.fact 26 (f := .free "int") rfl), He.free_ok X G (c.fact 27 (f := .free "min") rfl), He.free_ok X G (c.fact 28 (f := .free "all") rfl), He.free_ok X G (c.fact 29 (f := .free "isinstance") rfl), He.free_ok X G (c.fact 30 (f := .free "bool") rfl), He.free_ok X G (c.fact 31 (f := .free "str") rfl), He.free_ok X G (c.fact 32 (f := .free "tuple") rfl), He.free_ok X G (c.fact 33 (f := .free "list") rfl), He.free_ok X G (c.fact 34 (f := .free "zip") rfl), He.int_ok X G (c.fact 35 (f := .int "FAR" 99) rfl), He.int_ok X G (c.fact 36 (f := .int "MOST_DAYS" 31) rfl), He.int_ok X G (c.fact 37 (f := .int "MOST_PROMISES" 6) rfl), ⟨_, He.glo_ok X G (c.fact 38 (f := .glo "KINDS") rfl), c0.tup 0⟩, ⟨He.cls_ok (c.fact 39 (f := .cls "Log") rfl), by
    intro f hf
    simp only [fnames, List.mem_cons, List.not_mem_nil, or_false] at hf
    rcases hf with rfl | rfl | rfl | rfl
    · exact He.noat_ok (c.fact 40 (f := .noat "Log" "days") rfl)
    · exact He.noat_ok (c.fact 41 (f := .noat "Log" "held") rfl)
    · exact He.noat_ok (c.fact 42 (f := .noat "Log" "letters") rfl)
    · exact He.noat_ok (c.fact 43 (f := .noat "Log" "earlier") rfl)⟩, ops_ok (c0.own 1), isi_ok (He.glo_ok X G (c.fact 44 (f := .glo "Log") rfl)) (c0.own 2), ⟨He.glo_ok X G (c.fact 46 (f := .glo "InvalidRow") rfl), (He.exc_ok (c.fact 45 (f := .exc "InvalidRow") rfl)).1, (He.exc_ok (c.fact 45 (f := .exc "InvalidRow") rfl)).2.1, (He.exc_ok (c.fact 45 (f := .exc "InvalidRow") rfl)).2.2.1, (He.exc_ok (c.fact 45 (f := .exc "InvalidRow") rfl)).2.2.2⟩, ⟨He.glo_ok X G (c.fact 48 (f := .glo "InvalidPromise") rfl), (He.exc_ok (c.fact 47 (f := .exc "InvalidPromise") rfl)).1, (He.exc_ok (c.fact 47 (f := .exc "InvalidPromise") rfl)).2.1, (He.exc_ok (c.fact 47 (f := .exc "InvalidPromise") rfl)).2.2.1, (He.exc_ok (c.fact 47 (f := .exc "InvalidPromise") rfl)).2.2.2⟩, ⟨He.glo_ok X G (c.fact 50 (f := .glo "TooMany") rfl), (He.exc_ok (c.fact 49 (f := .exc "TooMany") rfl)).1, (He.exc_ok (c.fact 49 (f := .exc "TooMany") rfl)).2.1, (He.exc_ok (c.fact 49 (f := .exc "TooMany") rfl)).2.2.1, (He.exc_ok (c.fact 49 (f := .exc "TooMany") rfl)).2.2.2⟩, ⟨He.glo_ok X G (c.fact 52 (f := .glo "Contradiction") rfl), (He.exc_ok (c.fact 51 (f := .exc "Contradiction") rfl)).1, (He.exc_ok (c.fact 51 (f := .exc "Contradiction") rfl)).2.1, (He.exc_ok (c.fact 51 (f := .exc "Contradiction") rfl)).2.2.1, (He.exc_ok (c.fact 51 (f := .exc "Contradiction") rfl)).2.2.2⟩, ⟨He.glo_ok X G (c.fact 54 (f := .glo "NothingToUndo") rfl), (He.exc_ok (c.fact 53 (f := .exc "NothingToUndo") rfl)).1, (He.exc_ok (c.fact 53 (f := .exc "NothingToUndo") rfl)).2.1, (He.exc_ok (c.fact 53 (f := .exc "NothingToUndo") rfl)).2.2.1, (He.exc_ok (c.fact 53 (f := .exc "NothingToUndo") rfl)).2.2.2⟩, ⟨He.glo_ok X G (c.fact 48 (f := .glo "InvalidPromise") rfl), by
    intro z hz
    simp only [List.mem_cons, List.not_mem_nil, or_false] at hz
    rcases hz with rfl | rfl | rfl
    · exact He.exm_ok (c.fact 55 (f := .exm "InvalidPromise" "InvalidPromise" true) rfl)
    · exact He.exm_ok (c.fact 56 (f := .exm "Contradiction" "InvalidPromise" false) rfl)
    · exact He.exm_ok (c.fact 57 (f := .exm "TooMany" "InvalidPromise" false) rfl)⟩, ⟨He.glo_ok X G (c.fact 50 (f := .glo "TooMany") rfl), by
    intro z hz
    simp only [List.mem_cons, List.not_mem_nil, or_false] at hz
    rcases hz with rfl | rfl | rfl
    · exact He.exm_ok (c.fact 58 (f := .exm "InvalidPromise" "TooMany" false) rfl)
    · exact He.exm_ok (c.fact 59 (f := .exm "Contradiction" "TooMany" false) rfl)
    · exact He.exm_ok (c.fact 60 (f := .exm "TooMany" "TooMany" true) rfl)⟩, ⟨He.glo_ok X G (c.fact 52 (f := .glo "Contradiction") rfl), by
    intro z hz
    simp only [List.mem_cons, List.not_mem_nil, or_false] at hz
    rcases hz with rfl | rfl | rfl
    · exact He.exm_ok (c.fact 61 (f := .exm "InvalidPromise" "Contradiction" false) rfl)
    · exact He.exm_ok (c.fact 62 (f := .exm "Contradiction" "Contradiction" true) rfl)
    · exact He.exm_ok (c.fact 63 (f := .exm "TooMany" "Contradiction" false) rfl)⟩⟩
  have e := hfa.symm.trans g_law_k17
  cases e
  have b := FunD.bindsA (ps := ["script"]) F_law_k17 fun _ _ _ _ _ _ us hl => match us, hl with | [_], _ => rfl
  refine ⟨fd_law_k17, fun s v => b s [v] rfl, fun base _ _ => ?_⟩
  have J_first_bounds : JFn P w K mg base (clK K) 1 "first_bounds" 2 m_first_bounds := ⟨_, g_first_bounds, j_first_bounds T F_first_bounds ⟩
  have J_all_bounds : JFn P w K mg base (clK K) 2 "all_bounds" 2 m_all_bounds := ⟨_, g_all_bounds, j_all_bounds T F_all_bounds J_first_bounds⟩
  have J_is_possible : JFn P w K mg base (clK K) 3 "is_possible" 2 m_is_possible := ⟨_, g_is_possible, j_is_possible T F_is_possible J_all_bounds⟩
  have J_range_of : JFn P w K mg base (clK K) 1 "range_of" 3 m_range_of := ⟨_, g_range_of, j_range_of T F_range_of ⟩
  have J_day_states : JFn P w K mg base (clK K) 3 "day_states" 2 m_day_states := ⟨_, g_day_states, j_day_states T F_day_states J_all_bounds J_range_of⟩
  have J_is_integer : JFn P w K mg base (clK K) 1 "is_integer" 3 m_is_integer := ⟨_, g_is_integer, j_is_integer T F_is_integer ⟩
  have J_are_letters : JFn P w K mg base (clK K) 1 "are_letters" 2 m_are_letters := ⟨_, g_are_letters, j_are_letters T F_are_letters ⟩
  have J_is_known_rows : JFn P w K mg base (clK K) 2 "is_known_rows" 1 m_is_known_rows := ⟨_, g_is_known_rows, j_is_known_rows T F_is_known_rows J_are_letters⟩
  have J_is_promise : JFn P w K mg base (clK K) 2 "is_promise" 2 m_is_promise := ⟨_, g_is_promise, j_is_promise T F_is_promise J_is_integer⟩
  have J_are_promises : JFn P w K mg base (clK K) 3 "are_promises" 2 m_are_promises := ⟨_, g_are_promises, j_are_promises T F_are_promises J_is_promise⟩
  have J_LogD__initD_ : JMk P w K mg base (clK K) 3 2 2 m_LogD__initD_ := ⟨_, He.glo_ok X G (c.fact 44 (f := .glo "Log") rfl), He.mkr_ok (c.fact 70 (f := .mkr "Log") rfl), j_LogD__initD_ T F_LogD__initD_ J_is_known_rows⟩
  have J_Log_promises : JPr P w K mg base (clK K) 1 2 "promises" m_Log_promises := ⟨_, _, prop_ok (c0.own 3), j_Log_promises T F_Log_promises ⟩
  have J_Log_states : JPr P w K mg base (clK K) 1 2 "states" m_Log_states := ⟨_, _, prop_ok (c0.own 4), j_Log_states T F_Log_states ⟩
  have J_Log_become : JMt P w K mg base (clK K) 4 2 "become" 2 m_Log_become := ⟨_, He.meth_ok (c.fact 64 (f := .meth "Log" "become") rfl), j_Log_become T F_Log_become J_day_states⟩
  have J_Log_check : JMt P w K mg base (clK K) 4 2 "check" 3 m_Log_check := ⟨_, He.meth_ok (c.fact 65 (f := .meth "Log" "check") rfl), j_Log_check T F_Log_check J_is_promise J_is_possible⟩
  have J_Log_add : JMt P w K mg base (clK K) 5 2 "add" 5 m_Log_add := ⟨_, He.meth_ok (c.fact 66 (f := .meth "Log" "add") rfl), j_Log_add T F_Log_add J_Log_check J_Log_become⟩
  have J_Log_try_all_v1 : JSt P w K mg base (clK K) 5 2 "try_all" 1 m_Log_try_all_v1 := ⟨_, He.meth_ok (c.fact 67 (f := .meth "Log" "try_all") rfl), j_Log_try_all_v1 T F_Log_try_all_v1 J_Log_check J_Log_become⟩
  have J_Log_undo : JMt P w K mg base (clK K) 5 2 "undo" 1 m_Log_undo := ⟨_, He.meth_ok (c.fact 68 (f := .meth "Log" "undo") rfl), j_Log_undo T F_Log_undo J_Log_become⟩
  have J_LogD__eqD_ : JMt P w K mg base (clK K) 1 2 "__eq__" 2 m_LogD__eqD_ := ⟨_, He.meth_ok (c.fact 69 (f := .meth "Log" "__eq__") rfl), j_LogD__eqD_ T F_LogD__eqD_ ⟩
  have J_law_draw : JFn P w K mg base (clK K) 1 "_law_draw" 2 m_law_draw := ⟨_, g_law_draw, j_law_draw T F_law_draw ⟩
  have J_law_like : JFn P w K mg base (clK K) 5 "_law_like" 2 m_law_like := ⟨_, g_law_like, j_law_like T F_law_like  (g_law_like)⟩
  have J_law_row : JFn P w K mg base (clK K) 2 "_law_row" 2 m_law_row := ⟨_, g_law_row, j_law_row T F_law_row J_law_draw⟩
  have J_law_masked : JFn P w K mg base (clK K) 2 "_law_masked" 2 m_law_masked := ⟨_, g_law_masked, j_law_masked T F_law_masked J_law_draw⟩
  have J_law_due : JFn P w K mg base (clK K) 1 "_law_due" 3 m_law_due := ⟨_, g_law_due, j_law_due T F_law_due ⟩
  have J_law_keeps : JFn P w K mg base (clK K) 2 "_law_keeps" 2 m_law_keeps := ⟨_, g_law_keeps, j_law_keeps T F_law_keeps J_law_due⟩
  have J_law_promise : JFn P w K mg base (clK K) 2 "_law_promise" 2 m_law_promise := ⟨_, g_law_promise, j_law_promise T F_law_promise J_law_draw J_law_due⟩
  have J_law_promises : JFn P w K mg base (clK K) 3 "_law_promises" 3 m_law_promises := ⟨_, g_law_promises, j_law_promises T F_law_promises J_law_draw J_law_promise⟩
  have J_law_fits : JFn P w K mg base (clK K) 3 "_law_fits" 3 m_law_fits := ⟨_, g_law_fits, j_law_fits T F_law_fits J_law_keeps⟩
  have J_law_rows : JFn P w K mg base (clK K) 4 "_law_rows" 2 m_law_rows := ⟨_, g_law_rows, j_law_rows T F_law_rows J_law_fits⟩
  have J_law_log : JFn P w K mg base (clK K) 6 "_law_log" 2 m_law_log := ⟨_, g_law_log, j_law_log T F_law_log J_LogD__initD_ J_Log_add⟩
  have J_law_tried : JFn P w K mg base (clK K) 6 "_law_tried" 2 m_law_tried := ⟨_, g_law_tried, j_law_tried T F_law_tried J_Log_try_all_v1⟩
  exact j_law_k17 T F_law_k17 J_law_draw J_law_row J_law_masked J_law_promises J_law_keeps J_law_log J_law_promise J_are_promises J_law_rows J_law_tried J_law_like J_Log_promises J_Log_states J_day_states J_LogD__eqD_ J_Log_undo
end Fl
open PySem PySem.W PySem.Calls PyProof.Rows
theorem PySem.Challenge.cw_workdaylogs_k17_whole_promises_at_once_holds : PySem.Challenge.rw_workdaylogs_k17_whole_promises_at_once.Holds := by
  w_on; o_law
  refine HandSHeadRun.head_any (r := OpenLaw.row PySem.Challenge.rw_workdaylogs_k17_whole_promises_at_once) (q := view (OpenLaw.row PySem.Challenge.rw_workdaylogs_k17_whole_promises_at_once).prog [41]) (H := Fl.hk) (ob := Fl.ob) (M := 12000) (loose := Fl.loose) (d := HandSHeadRun.topDef (OpenLaw.row PySem.Challenge.rw_workdaylogs_k17_whole_promises_at_once).prog 41) (kwd := []) Fl.ob_eq
    (by kernel_rfl) (fun s => by kernel_rfl) Fl.run (by kernel_rfl) (by kernel_rfl) (by kernel_rfl) (by rfl) (by first | assumption | decide +kernel) (by decide +kernel) ⟨rfl, rfl, rfl, rfl, rfl, by decide +kernel⟩ ?hw ?hc
  case hw => w_witness2
  case hc =>
    refine Fl.law_end (l := PySem.Challenge.rw_workdaylogs_k17_whole_promises_at_once) (k := 7) (m := Fl.m_law_k17) rfl (by kernel_rfl) ⟨rfl, by decide, by decide⟩ Fl.law_k17_true ?F
    intro w mg fa h Y G hmg0
    obtain ⟨K, KX, c⟩ := Y
    have hmg : mg ("law" : PySem.Str) = some (.ref fa) := by
      have e : (HandSHeadRun.topDef (OpenLaw.row PySem.Challenge.rw_workdaylogs_k17_whole_promises_at_once).prog 41).name = ("law" : PySem.Str) := by kernel_rfl
      rw [← e]
      exact hmg0
    obtain ⟨fd, hb, hF⟩ := Fl.facts (P := (PySem.Challenge.rw_workdaylogs_k17_whole_promises_at_once).prog) (w := w) KX G hmg c
    exact ⟨K, fd, (Fl.clK K), KX, hb, hF⟩
