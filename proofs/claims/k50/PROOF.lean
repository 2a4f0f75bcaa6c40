import PyProof.Rows.All
import Wide.All
import OpenK.AllK
import Wide.FinOn
import HandS.ForMost
import HandS.IsInst
import HandS.Defaults
import HandS.FStr
import HandS.NoneIn
import HandS.More
import HandS.RaiseMore
import KE.DataEq
import HandS.Dict
import HandS.HeadHook2
import HandS.Head0
import HandS.Head1
import HandS.Head2
import HandS.HeadEnd
import HandS.HeadHook1
import HandS.HeadHook3
import PySem.Challenge.RW_tipmeet_k50_words_written
set_option Elab.async false
set_option linter.all false
set_option maxRecDepth 100000
set_option maxHeartbeats 4000000
/-! The pure layer: code over data without the heap. D: data; Store: the mutable cells; w..: what must hold ahead (over data alone). -/
namespace Pz
open PySem PySem.Spec PyProof.Rows L2

inductive D where
  | non | bl (b : Bool) | int (i : Int) | str (x : Str) | ty (n : String) | ref (a : Addr) | cel (a : Addr)
  | lst (xs : List D) | tup (xs : List D)
  | fro (xs : List D)
  | ins (C : Addr) (ks : List Str) (xs : List D)
  | dT (ks : List (List Key)) (xs : List D)
  | dK (ks : List Key) (xs : List D)

inductive Cell where
  | lst (xs : List D)
  | ins (C : Addr) (ks : List Str) (xs : List D)
  | dT (ks : List (List Key)) (xs : List D)
  | dK (ks : List Key) (xs : List D)

abbrev Store := Addr → Option Cell
def sset (S : Store) (a : Addr) (c : Cell) : Store := fun b => if b = a then some c else S b
def sdel (S : Store) (a : Addr) : Store := fun b => if b = a then none else S b
theorem sset_same {S : Store} {a : Addr} {c : Cell} : sset S a c a = some c := by unfold sset; rw [if_pos rfl]
theorem sset_ne {S : Store} {a b : Addr} {c : Cell} (h : b ≠ a) : sset S a c b = S b := by unfold sset; rw [if_neg h]
theorem sset_sset {S : Store} {a : Addr} {c c' : Cell} : sset (sset S a c) a c' = sset S a c' := by
  funext b; unfold sset; split <;> rfl
theorem sdel_same {S : Store} {a : Addr} : sdel S a a = none := by unfold sdel; rw [if_pos rfl]
theorem sdel_ne {S : Store} {a b : Addr} (h : b ≠ a) : sdel S a b = S b := by unfold sdel; rw [if_neg h]
theorem sdel_sset {S : Store} {a : Addr} {c : Cell} (h : S a = none) : sdel (sset S a c) a = S := by
  funext b; unfold sdel sset; split
  · rename_i e; rw [e, h]
  · rfl

def KL (K : PySem.W.Frag) (a : Addr) (xs : List V) : Prop :=
  ∃ (o : Obj) (its : Array Value) (n : Nat), K.lookup a = some o ∧ o.cls = .type "list" ∧ o.dict = none ∧ o.data = .seq its n ∧ its.size ≤ sizeLine ∧ Vals xs its.toList
def KT (K : PySem.W.Frag) (a : Addr) (xs : List V) : Prop :=
  ∃ (o : Obj) (its : Array Value) (n : Nat), K.lookup a = some o ∧ o.cls = .type "tuple" ∧ o.data = .seq its n ∧ its.size ≤ sizeLine ∧ Vals xs its.toList

section
variable (K : PySem.W.Frag) (F : Addr → Prop) (S : Store) (H : Hp)
def LAt (a : Addr) (vs : List V) : Prop := S a = none ∧ ¬ F a ∧ H a = some (.lst vs)
/-- a list that is read alone (the script) -/
def FAt (a : Addr) (vs : List V) : Prop := (S a = none ∧ ¬ F a ∧ Rd H a (.lst vs)) ∨ KL K a vs
def TAt (a : Addr) (vs : List V) : Prop := (S a = none ∧ ¬ F a ∧ Rd H a (.tup vs)) ∨ KT K a vs
mutual
def RepD : D → V → Prop
  | .non, v => v = .non
  | .bl b, v => v = .bl b
  | .int i, v => v = .int i
  | .str x, v => v = .str x
  | .ty n, v => v = .ty n
  | .ref a, v => v = .ref a
  | .cel a, v => v = .ref a
  | .lst xs, v => ∃ a vs, v = .ref a ∧ LAt F S H a vs ∧ RepDs xs vs
  | .fro xs, v => ∃ a vs, v = .ref a ∧ FAt K F S H a vs ∧ RepDs xs vs
  | .tup xs, v => ∃ a vs, v = .ref a ∧ TAt K F S H a vs ∧ RepDs xs vs
  | .ins C ks xs, v => ∃ a dx vs, v = .ref a ∧ (S a = none ∧ ¬ F a ∧ H a = some (.ins C dx (ks.zip vs))) ∧ ks.length = vs.length ∧ RepDs xs vs
  | .dT ks xs, v => ∃ a vs, v = .ref a ∧ (S a = none ∧ ¬ F a ∧ H a = some (.dT (ks.zip vs))) ∧ ks.length = vs.length ∧ RepDs xs vs
  | .dK ks xs, v => ∃ a vs, v = .ref a ∧ (S a = none ∧ ¬ F a ∧ H a = some (.dK (ks.zip vs))) ∧ ks.length = vs.length ∧ RepDs xs vs
def RepDs : List D → List V → Prop
  | [], vs => vs = []
  | x :: xs, vs => ∃ v r, vs = v :: r ∧ RepD x v ∧ RepDs xs r
end
def RepC (a : Addr) : Cell → Prop
  | .lst xs => ∃ vs, H a = some (.lst vs) ∧ RepDs K F S H xs vs
  | .ins C ks xs => ∃ dx vs, H a = some (.ins C dx (ks.zip vs)) ∧ ks.length = vs.length ∧ RepDs K F S H xs vs
  | .dT ks xs => ∃ vs, H a = some (.dT (ks.zip vs)) ∧ ks.length = vs.length ∧ RepDs K F S H xs vs
  | .dK ks xs => ∃ vs, H a = some (.dK (ks.zip vs)) ∧ ks.length = vs.length ∧ RepDs K F S H xs vs
structure Ok : Prop where
  cells : ∀ a c, S a = some c → ¬ F a ∧ RepC K F S H a c
  hid : ∀ a, F a → (∃ o, H a = some o) ∧ S a = none
end

/-- what is no cell stands as it stood -/
def Fr (S : Store) (H : Hp) (S' : Store) (H' : Hp) : Prop := ∀ a o, H a = some o → S a = none → H' a = some o ∧ S' a = none
theorem Fr.refl (S : Store) (H : Hp) : Fr S H S H := fun _ _ h1 h2 => ⟨h1, h2⟩
theorem Fr.trans {S S1 S2 : Store} {H H1 H2 : Hp} (f : Fr S H S1 H1) (g : Fr S1 H1 S2 H2) : Fr S H S2 H2 := fun a o h1 h2 => let ⟨x, y⟩ := f a o h1 h2; g a o x y
def Mv (F : Addr → Prop) (S : Store) (H : Hp) (F' : Addr → Prop) (S' : Store) (H' : Hp) : Prop := ∀ a o, H a = some o → S a = none → ¬ F a → H' a = some o ∧ S' a = none ∧ ¬ F' a
theorem Fr.mv {F : Addr → Prop} {S S' : Store} {H H' : Hp} (f : Fr S H S' H') : Mv F S H F S' H' := fun a o h1 h2 h3 => ⟨(f a o h1 h2).1, (f a o h1 h2).2, h3⟩

section
variable {K : PySem.W.Frag} {F F' : Addr → Prop} {S S' : Store} {H H' : Hp}
theorem LAt.mv {a : Addr} {vs : List V} (m : Mv F S H F' S' H') (h : LAt F S H a vs) : LAt F' S' H' a vs := by
  obtain ⟨h1, h2, h3⟩ := h
  obtain ⟨x, y, z⟩ := m a _ h3 h1 h2
  exact ⟨y, z, x⟩
theorem FAt.mv {a : Addr} {vs : List V} (m : Mv F S H F' S' H') (h : FAt K F S H a vs) : FAt K F' S' H' a vs := by
  rcases h with ⟨h1, h2, h3 | ⟨o, h3⟩⟩ | h
  · obtain ⟨x, y, z⟩ := m a _ h3 h1 h2
    exact .inl ⟨y, z, .inl x⟩
  · obtain ⟨x, y, z⟩ := m a _ h3 h1 h2
    exact .inl ⟨y, z, .inr ⟨o, x⟩⟩
  · exact .inr h
theorem TAt.mv {a : Addr} {vs : List V} (m : Mv F S H F' S' H') (h : TAt K F S H a vs) : TAt K F' S' H' a vs := by
  rcases h with ⟨h1, h2, h3 | ⟨o, h3⟩⟩ | h
  · obtain ⟨x, y, z⟩ := m a _ h3 h1 h2
    exact .inl ⟨y, z, .inl x⟩
  · obtain ⟨x, y, z⟩ := m a _ h3 h1 h2
    exact .inl ⟨y, z, .inr ⟨o, x⟩⟩
  · exact .inr h
theorem LAt.sq {a : Addr} {vs : List V} (h : LAt F S H a vs) : SqL K H a vs := .inl (.inl h.2.2)
theorem FAt.sq {a : Addr} {vs : List V} (h : FAt K F S H a vs) : SqL K H a vs := by
  rcases h with ⟨_, _, h⟩ | h
  · exact .inl h
  · exact .inr h
theorem TAt.sq {a : Addr} {vs : List V} (h : TAt K F S H a vs) : SqT K H a vs := by
  rcases h with ⟨_, _, h⟩ | h
  · exact .inl h
  · exact .inr h
mutual
theorem RepD.mv (m : Mv F S H F' S' H') : ∀ (d : D) (v : V), RepD K F S H d v → RepD K F' S' H' d v
  | .non, _, h => h
  | .bl _, _, h => h
  | .int _, _, h => h
  | .str _, _, h => h
  | .ty _, _, h => h
  | .ref _, _, h => h
  | .cel _, _, h => h
  | .lst xs, _, ⟨a, vs, e, h1, h2⟩ => ⟨a, vs, e, h1.mv m, RepDs.mv m xs vs h2⟩
  | .fro xs, _, ⟨a, vs, e, h1, h2⟩ => ⟨a, vs, e, h1.mv m, RepDs.mv m xs vs h2⟩
  | .tup xs, _, ⟨a, vs, e, h1, h2⟩ => ⟨a, vs, e, h1.mv m, RepDs.mv m xs vs h2⟩
  | .ins C ks xs, _, ⟨a, dx, vs, e, ⟨h1, h2, h3⟩, h4, h5⟩ => let ⟨x, y, z⟩ := m a _ h3 h1 h2; ⟨a, dx, vs, e, ⟨y, z, x⟩, h4, RepDs.mv m xs vs h5⟩
  | .dT ks xs, _, ⟨a, vs, e, ⟨h1, h2, h3⟩, h4, h5⟩ => let ⟨x, y, z⟩ := m a _ h3 h1 h2; ⟨a, vs, e, ⟨y, z, x⟩, h4, RepDs.mv m xs vs h5⟩
  | .dK ks xs, _, ⟨a, vs, e, ⟨h1, h2, h3⟩, h4, h5⟩ => let ⟨x, y, z⟩ := m a _ h3 h1 h2; ⟨a, vs, e, ⟨y, z, x⟩, h4, RepDs.mv m xs vs h5⟩
theorem RepDs.mv (m : Mv F S H F' S' H') : ∀ (xs : List D) (vs : List V), RepDs K F S H xs vs → RepDs K F' S' H' xs vs
  | [], _, h => h
  | x :: xs, _, ⟨v, r, e, h1, h2⟩ => ⟨v, r, e, RepD.mv m x v h1, RepDs.mv m xs r h2⟩
end
theorem RepDs.length : ∀ {xs : List D} {vs : List V}, RepDs K F S H xs vs → xs.length = vs.length
  | [], _, h => by cases h; rfl
  | x :: xs, _, ⟨v, r, e, _, h2⟩ => by rw [e, List.length_cons, List.length_cons, RepDs.length h2]
theorem RepDs.get : ∀ {xs : List D} {vs : List V} {i : Nat} {d : D}, RepDs K F S H xs vs → xs[i]? = some d → ∃ v, vs[i]? = some v ∧ RepD K F S H d v
  | [], _, _, _, _, e => by simp at e
  | x :: xs, _, 0, d, ⟨v, r, e, h1, _⟩, q => by
    have : x = d := by simpa using q
    subst this
    exact ⟨v, by rw [e]; rfl, h1⟩
  | x :: xs, _, i + 1, d, ⟨v, r, e, _, h2⟩, q => by
    obtain ⟨u, h3, h4⟩ := RepDs.get (i := i) h2 (by simpa using q)
    exact ⟨u, by rw [e]; simpa using h3, h4⟩
theorem RepDs.getV : ∀ {xs : List D} {vs : List V} {i : Nat} {v : V}, RepDs K F S H xs vs → vs[i]? = some v → ∃ d, xs[i]? = some d ∧ RepD K F S H d v
  | [], _, _, _, h, e => by cases h; simp at e
  | x :: xs, _, 0, w, ⟨v, r, e, h1, _⟩, q => by
    subst e
    have : v = w := by simpa using q
    subst this
    exact ⟨x, rfl, h1⟩
  | x :: xs, _, i + 1, w, ⟨v, r, e, _, h2⟩, q => by
    subst e
    obtain ⟨u, h3, h4⟩ := RepDs.getV (i := i) h2 (by simpa using q)
    exact ⟨u, by simpa using h3, h4⟩
theorem RepDs.append : ∀ {xs ys : List D} {vs ws : List V}, RepDs K F S H xs vs → RepDs K F S H ys ws → RepDs K F S H (xs ++ ys) (vs ++ ws)
  | [], _, _, _, h, h' => by cases h; exact h'
  | x :: xs, _, _, _, ⟨v, r, e, h1, h2⟩, h' => by subst e; exact ⟨v, r ++ _, rfl, h1, RepDs.append h2 h'⟩
theorem RepDs.one {x : D} {v : V} (h : RepD K F S H x v) : RepDs K F S H [x] [v] := ⟨v, [], rfl, h, rfl⟩
theorem RepDs.take : ∀ {xs : List D} {vs : List V} (n : Nat), RepDs K F S H xs vs → RepDs K F S H (xs.take n) (vs.take n)
  | _, _, 0, _ => rfl
  | [], _, n + 1, h => by cases h; rfl
  | x :: xs, _, n + 1, ⟨v, r, e, h1, h2⟩ => by subst e; exact ⟨v, r.take n, rfl, h1, RepDs.take n h2⟩
theorem RepDs.drop : ∀ {xs : List D} {vs : List V} (n : Nat), RepDs K F S H xs vs → RepDs K F S H (xs.drop n) (vs.drop n)
  | _, _, 0, h => h
  | [], _, n + 1, h => by cases h; rfl
  | x :: xs, _, n + 1, ⟨v, r, e, h1, h2⟩ => by subst e; exact RepDs.drop n h2
theorem RepDs.set : ∀ {xs : List D} {vs : List V} {d : D} {v : V} (n : Nat), RepDs K F S H xs vs → RepD K F S H d v → RepDs K F S H (xs.set n d) (vs.set n v)
  | [], _, _, _, _, h, _ => by cases h; rfl
  | x :: xs, _, _, _, 0, ⟨v, r, e, h1, h2⟩, h => by subst e; exact ⟨_, r, rfl, h, h2⟩
  | x :: xs, _, _, _, n + 1, ⟨v, r, e, h1, h2⟩, h => by subst e; exact ⟨v, _, rfl, h1, RepDs.set n h2 h⟩
theorem RepDs.scal (f : Int → D) (g : Int → V) (h : ∀ i, RepD K F S H (f i) (g i)) : ∀ ns : List Int, RepDs K F S H (ns.map f) (ns.map g)
  | [] => rfl
  | n :: ns => ⟨g n, ns.map g, rfl, h n, RepDs.scal f g h ns⟩
theorem RepDs.ints : ∀ {ns : List Int} {vs : List V}, RepDs K F S H (ns.map D.int) vs → vs = ns.map V.int
  | [], _, h => h
  | n :: ns, _, ⟨v, r, e, h1, h2⟩ => by
    rw [e, RepDs.ints h2, show v = V.int n from h1]; rfl
theorem RepDs.strs : ∀ {ns : List Str} {vs : List V}, RepDs K F S H (ns.map D.str) vs → vs = ns.map V.str
  | [], _, h => h
  | n :: ns, _, ⟨v, r, e, h1, h2⟩ => by
    rw [e, RepDs.strs h2, show v = V.str n from h1]; rfl
theorem RepDs.bls : ∀ {ns : List Bool} {vs : List V}, RepDs K F S H (ns.map D.bl) vs → vs = ns.map V.bl
  | [], _, h => h
  | n :: ns, _, ⟨v, r, e, h1, h2⟩ => by
    rw [e, RepDs.bls h2, show v = V.bl n from h1]; rfl
theorem RepC.at {a : Addr} {c : Cell} (h : RepC K F S H a c) : ∃ o, H a = some o := by
  cases c with
  | lst xs => obtain ⟨vs, e, _⟩ := h; exact ⟨_, e⟩
  | ins C ks xs => obtain ⟨dx, vs, e, _⟩ := h; exact ⟨_, e⟩
  | dT ks xs => obtain ⟨vs, e, _⟩ := h; exact ⟨_, e⟩
  | dK ks xs => obtain ⟨vs, e, _⟩ := h; exact ⟨_, e⟩
theorem Ok.free (ok : Ok K F S H) {p : Addr} (h : H p = none) : S p = none ∧ ¬ F p := by
  refine ⟨?_, fun z => ?_⟩
  · cases e : S p with
    | none => rfl
    | some c =>
      obtain ⟨o, q⟩ := (ok.cells p c e).2.at
      rw [h] at q; cases q
  · obtain ⟨⟨o, q⟩, _⟩ := ok.hid p z
    rw [h] at q; cases q
/-- a new object that is no cell -/
theorem Fr.new {p : Addr} {o : HO} (ok : Ok K F S H) (h : H p = none) : Fr S H S (upd H p o) := fun a u e1 e2 => ⟨by rw [upd_ne (ne_of_none e1 h)]; exact e1, e2⟩
theorem RepC.mv {a : Addr} {c : Cell} (m : Mv F S H F' S' H') (e : ∀ o, H a = some o → H' a = some o) (h : RepC K F S H a c) : RepC K F' S' H' a c := by
  cases c with
  | lst xs => obtain ⟨vs, q, r⟩ := h; exact ⟨vs, e _ q, RepDs.mv m _ _ r⟩
  | ins C ks xs => obtain ⟨dx, vs, q, l, r⟩ := h; exact ⟨dx, vs, e _ q, l, RepDs.mv m _ _ r⟩
  | dT ks xs => obtain ⟨vs, q, l, r⟩ := h; exact ⟨vs, e _ q, l, RepDs.mv m _ _ r⟩
  | dK ks xs => obtain ⟨vs, q, l, r⟩ := h; exact ⟨vs, e _ q, l, RepDs.mv m _ _ r⟩
theorem Ok.new {p : Addr} {o : HO} (ok : Ok K F S H) (h : H p = none) : Ok K F S (upd H p o) := by
  refine ⟨fun a c e => ?_, fun a ha => ?_⟩
  · obtain ⟨h1, h2⟩ := ok.cells a c e
    exact ⟨h1, h2.mv (Fr.new ok h).mv fun u q => by rw [upd_ne (ne_of_none q h)]; exact q⟩
  · obtain ⟨⟨u, q⟩, e⟩ := ok.hid a ha
    exact ⟨⟨u, by rw [upd_ne (ne_of_none q h)]; exact q⟩, e⟩
/-- a new cell -/
theorem Fr.newC {p : Addr} {o : HO} {c : Cell} (ok : Ok K F S H) (h : H p = none) : Fr S H (sset S p c) (upd H p o) := fun a u e1 e2 => ⟨by rw [upd_ne (ne_of_none e1 h)]; exact e1, by rw [sset_ne (ne_of_none e1 h)]; exact e2⟩
theorem Ok.newC {p : Addr} {o : HO} {c : Cell} (ok : Ok K F S H) (h : H p = none) (hc : RepC K F (sset S p c) (upd H p o) p c) : Ok K F (sset S p c) (upd H p o) := by
  refine ⟨fun a c' e => ?_, fun a ha => ?_⟩
  · by_cases hp : a = p
    · subst hp
      rw [sset_same] at e
      cases e
      exact ⟨(ok.free h).2, hc⟩
    · rw [sset_ne hp] at e
      obtain ⟨h1, h2⟩ := ok.cells a c' e
      exact ⟨h1, h2.mv (Fr.newC ok h).mv fun u q => by rw [upd_ne hp]; exact q⟩
  · obtain ⟨⟨u, q⟩, e⟩ := ok.hid a ha
    exact ⟨⟨u, by rw [upd_ne (ne_of_none q h)]; exact q⟩, by rw [sset_ne (ne_of_none q h)]; exact e⟩
/-- a cell changes -/
theorem Fr.chg {p : Addr} {o : HO} {c c' : Cell} (h : S p = some c) : Fr S H (sset S p c') (upd H p o) := fun a u e1 e2 => by
  have n : a ≠ p := fun z => by subst z; rw [h] at e2; cases e2
  exact ⟨by rw [upd_ne n]; exact e1, by rw [sset_ne n]; exact e2⟩
theorem Ok.chg {p : Addr} {o : HO} {c c' : Cell} (ok : Ok K F S H) (h : S p = some c) (hc : RepC K F (sset S p c') (upd H p o) p c') : Ok K F (sset S p c') (upd H p o) := by
  refine ⟨fun a c1 e => ?_, fun a ha => ?_⟩
  · by_cases hp : a = p
    · subst hp
      rw [sset_same] at e
      cases e
      exact ⟨(ok.cells a c h).1, hc⟩
    · rw [sset_ne hp] at e
      obtain ⟨h1, h2⟩ := ok.cells a c1 e
      exact ⟨h1, h2.mv (Fr.chg h).mv fun u q => by rw [upd_ne hp]; exact q⟩
  · obtain ⟨⟨u, q⟩, e⟩ := ok.hid a ha
    have n : a ≠ p := fun z => by subst z; rw [h] at e; cases e
    exact ⟨⟨u, by rw [upd_ne n]; exact q⟩, by rw [sset_ne n]; exact e⟩
/-- cells forgotten -/
def Sub (S' S : Store) : Prop := ∀ a c, S' a = some c → S a = some c
theorem Sub.refl (S : Store) : Sub S S := fun _ _ h => h
theorem Sub.none {S S' : Store} (s : Sub S' S) {a : Addr} (h : S a = none) : S' a = none := by
  cases e : S' a with
  | none => rfl
  | some c => rw [s a c e] at h; cases h
theorem Sub.mv (s : Sub S' S) : Mv F S H F S' H := fun a o h1 h2 h3 => ⟨h1, s.none h2, h3⟩
theorem Sub.fr (s : Sub S' S) : Fr S H S' H := fun a o h1 h2 => ⟨h1, s.none h2⟩
theorem Sub.ok (s : Sub S' S) (ok : Ok K F S H) : Ok K F S' H := by
  refine ⟨fun a c e => ?_, fun a ha => ?_⟩
  · obtain ⟨h1, h2⟩ := ok.cells a c (s a c e)
    exact ⟨h1, h2.mv s.mv fun _ q => q⟩
  · obtain ⟨q, e⟩ := ok.hid a ha
    exact ⟨q, s.none e⟩
theorem sub_del (S : Store) (a : Addr) : Sub (sdel S a) S := fun b c e => by
  by_cases h : b = a
  · subst h; rw [sdel_same] at e; cases e
  · rw [sdel_ne h] at e; exact e
theorem sub_new {a : Addr} {c : Cell} (h : S a = Option.none) : Sub S (sset S a c) := fun b c' e => by
  have n : b ≠ a := fun z => by subst z; rw [h] at e; cases e
  rw [sset_ne n]; exact e
theorem Sub.trans {S1 S2 S3 : Store} (a : Sub S1 S2) (b : Sub S2 S3) : Sub S1 S3 := fun x c h => b x c (a x c h)
end
end Pz

set_option Elab.async false
set_option linter.all false
set_option maxRecDepth 100000
set_option maxHeartbeats 4000000
namespace Pz
open PySem PySem.Spec PyProof.Rows L2

abbrev En := List (Option D)
abbrev PQ := D → Store → Prop
abbrev WE := En → Store → PQ → Prop
abbrev WT := En → Store → (Bool → Store → Prop) → Prop
abbrev WA := En → Store → (List D → Store → Prop) → Prop
structure PEnds where
  nx : En → Store → Prop
  rt : PQ
  bk : En → Store → Prop := fun _ _ => False
  ct : En → Store → Prop := fun _ _ => False
abbrev WS := PEnds → En → Store → Prop
abbrev WG := D → En → Store → (En → Store → Prop) → Prop
abbrev WI := En → Store → (List D → Store → Prop) → Prop

structure RelE (K : PySem.W.Frag) (F : Addr → Prop) (S : Store) (H : Hp) (env : En) (σ : L2.St) : Prop where
  len : env.length = σ.length
  at_ : ∀ (i : Nat) (d : D), env[i]? = some (some d) → ∃ v, σ[i]? = some (some v) ∧ RepD K F S H d v
/-- what stays true through a def's run -/
structure Gd where
  p : Store → Hp → Prop
  cl : ∀ {S H S' H'}, p S H → Fr S H S' H' → p S' H'
def gTrue : Gd := ⟨fun _ _ => True, fun _ _ => trivial⟩
structure At (K : PySem.W.Frag) (G : Gd) (F : Addr → Prop) (S : Store) (H : Hp) (env : En) (σ : L2.St) : Prop where
  ok : Ok K F S H
  en : RelE K F S H env σ
  g : G.p S H
def Post (K : PySem.W.Frag) (F : Addr → Prop) (S : Store) (H : Hp) (Q : PQ) (Q' : VK) : Prop := ∀ v H' d S', Ok K F S' H' → Fr S H S' H' → RepD K F S' H' d v → Q d S' → Q' v H'
def PostT (K : PySem.W.Frag) (F : Addr → Prop) (S : Store) (H : Hp) (Q : Bool → Store → Prop) (Q' : Bool → Hp → Prop) : Prop := ∀ b H' S', Ok K F S' H' → Fr S H S' H' → Q b S' → Q' b H'
def PostA (K : PySem.W.Frag) (F : Addr → Prop) (S : Store) (H : Hp) (Q : List D → Store → Prop) (Q' : List V → Hp → Prop) : Prop := ∀ vs H' ds S', Ok K F S' H' → Fr S H S' H' → RepDs K F S' H' ds vs → Q ds S' → Q' vs H'
section
variable {K : PySem.W.Frag} {G : Gd} {F : Addr → Prop} {S S' : Store} {H H' : Hp} {env : En} {σ : L2.St}
theorem RelE.fr (e : RelE K F S H env σ) (f : Fr S H S' H') : RelE K F S' H' env σ := ⟨e.len, fun i d h => let ⟨v, h1, h2⟩ := e.at_ i d h; ⟨v, h1, RepD.mv f.mv _ _ h2⟩⟩
theorem RelE.mv {F' : Addr → Prop} (e : RelE K F S H env σ) (f : Mv F S H F' S' H') : RelE K F' S' H' env σ := ⟨e.len, fun i d h => let ⟨v, h1, h2⟩ := e.at_ i d h; ⟨v, h1, RepD.mv f _ _ h2⟩⟩
theorem At.to (a : At K G F S H env σ) (ok : Ok K F S' H') (f : Fr S H S' H') : At K G F S' H' env σ := ⟨ok, a.en.fr f, G.cl a.g f⟩
theorem Post.fr {Q : PQ} {Q' : VK} (p : Post K F S H Q Q') (f : Fr S H S' H') : Post K F S' H' Q Q' := fun v H2 d S2 ok f2 => p v H2 d S2 ok (f.trans f2)
theorem PostT.fr {Q : Bool → Store → Prop} {Q' : Bool → Hp → Prop} (p : PostT K F S H Q Q') (f : Fr S H S' H') : PostT K F S' H' Q Q' := fun v H2 S2 ok f2 => p v H2 S2 ok (f.trans f2)
theorem PostA.fr {Q : List D → Store → Prop} {Q' : List V → Hp → Prop} (p : PostA K F S H Q Q') (f : Fr S H S' H') : PostA K F S' H' Q Q' := fun v H2 d S2 ok f2 => p v H2 d S2 ok (f.trans f2)
theorem Post.here {Q : PQ} {Q' : VK} (p : Post K F S H Q Q') (ok : Ok K F S H) {d : D} {v : V} (r : RepD K F S H d v) (q : Q d S) : Q' v H := p v H d S ok (Fr.refl S H) r q
/-- a new list, a new tuple, as data -/
theorem Post.newL {Q : PQ} {Q' : VK} (p : Post K F S H Q Q') (ok : Ok K F S H) {xs : List D} {vs : List V} (r : RepDs K F S H xs vs) (q : Q (.lst xs) S) {a : Addr} (h : H a = none) : Q' (.ref a) (upd H a (.lst vs)) :=
  p _ _ (.lst xs) S (ok.new h) (Fr.new ok h) ⟨a, vs, rfl, ⟨(ok.free h).1, (ok.free h).2, upd_same⟩, RepDs.mv (Fr.new ok h).mv _ _ r⟩ q
theorem Post.newT {Q : PQ} {Q' : VK} (p : Post K F S H Q Q') (ok : Ok K F S H) {xs : List D} {vs : List V} (r : RepDs K F S H xs vs) (q : Q (.tup xs) S) {a : Addr} (h : H a = none) : Q' (.ref a) (upd H a (.tup vs)) :=
  p _ _ (.tup xs) S (ok.new h) (Fr.new ok h) ⟨a, vs, rfl, .inl ⟨(ok.free h).1, (ok.free h).2, .inl upd_same⟩, RepDs.mv (Fr.new ok h).mv _ _ r⟩ q
/-- a new list as a cell -/
theorem Post.newC {Q : PQ} {Q' : VK} (p : Post K F S H Q Q') (ok : Ok K F S H) {xs : List D} {vs : List V} (r : RepDs K F S H xs vs) (q : ∀ a, S a = none → Q (.cel a) (sset S a (.lst xs))) {a : Addr} (h : H a = none) : Q' (.ref a) (upd H a (.lst vs)) :=
  p _ _ (.cel a) (sset S a (.lst xs)) (ok.newC (c := .lst xs) h ⟨vs, upd_same, RepDs.mv (Fr.newC ok h).mv _ _ r⟩) (Fr.newC ok h) rfl (q a (ok.free h).1)
theorem RelE.set (e : RelE K F S H env σ) (i : Nat) {d : D} {v : V} (r : RepD K F S H d v) : RelE K F S H (env.set i (some d)) (σ.set i (some v)) := by
  refine ⟨by rw [List.length_set, List.length_set, e.len], fun j d' h => ?_⟩
  by_cases hj : i = j
  · subst hj
    have hi : i < env.length := by
      rcases Nat.lt_or_ge i env.length with h1 | h1
      · exact h1
      · rw [List.getElem?_eq_none (by rw [List.length_set]; exact h1)] at h; cases h
    rw [List.getElem?_set_self hi] at h
    cases h
    exact ⟨v, List.getElem?_set_self (by rw [← e.len]; exact hi), r⟩
  · rw [List.getElem?_set_ne hj] at h
    obtain ⟨u, h1, h2⟩ := e.at_ j d' h
    exact ⟨u, by rw [List.getElem?_set_ne hj]; exact h1, h2⟩
theorem At.set (a : At K G F S H env σ) (i : Nat) {d : D} {v : V} (r : RepD K F S H d v) : At K G F S H (env.set i (some d)) (σ.set i (some v)) := ⟨a.ok, a.en.set i r, a.g⟩
def wipeD (env : En) : List Nat → En
  | [] => env
  | v :: vs => (wipeD env vs).set v none
theorem RelE.unset (e : RelE K F S H env σ) (i : Nat) : RelE K F S H (env.set i none) (σ.set i none) := by
  refine ⟨by rw [List.length_set, List.length_set, e.len], fun j d' h => ?_⟩
  by_cases hj : i = j
  · subst hj
    rcases Nat.lt_or_ge i env.length with h1 | h1
    · rw [List.getElem?_set_self h1] at h; cases h
    · rw [List.getElem?_eq_none (by rw [List.length_set]; exact h1)] at h; cases h
  · rw [List.getElem?_set_ne hj] at h
    obtain ⟨u, h1, h2⟩ := e.at_ j d' h
    exact ⟨u, by rw [List.getElem?_set_ne hj]; exact h1, h2⟩
theorem RelE.wipe (e : RelE K F S H env σ) : ∀ vs : List Nat, RelE K F S H (wipeD env vs) (wipe σ vs)
  | [] => e
  | v :: vs => (RelE.wipe e vs).unset v
end

/-! ### soundness of readings -/
def SndE (K : PySem.W.Frag) (G : Gd) (t : TE) (w : WE) : Prop := ∀ {F : Addr → Prop} {S : Store} {H : Hp} {env : En} {σ : L2.St} {Q : PQ} {Q' : VK}, At K G F S H env σ → w env S Q → Post K F S H Q Q' → t σ H Q'
def SndT (K : PySem.W.Frag) (G : Gd) (t : TT) (w : WT) : Prop := ∀ {F : Addr → Prop} {S : Store} {H : Hp} {env : En} {σ : L2.St} {Q : Bool → Store → Prop} {Q' : Bool → Hp → Prop}, At K G F S H env σ → w env S Q → PostT K F S H Q Q' → t σ H Q'
def SndA (K : PySem.W.Frag) (G : Gd) (t : TA) (w : WA) : Prop := ∀ {F : Addr → Prop} {S : Store} {H : Hp} {env : En} {σ : L2.St} {Q : List D → Store → Prop} {Q' : List V → Hp → Prop}, At K G F S H env σ → w env S Q → PostA K F S H Q Q' → t σ H Q'
structure EndsOk (K : PySem.W.Frag) (G : Gd) (F : Addr → Prop) (S : Store) (H : Hp) (P : PEnds) (D' : Ends) : Prop where
  nx : ∀ {env S' σ H'}, At K G F S' H' env σ → Fr S H S' H' → P.nx env S' → D'.nx σ H'
  rt : Post K F S H P.rt D'.rt
  bk : ∀ {env S' σ H'}, At K G F S' H' env σ → Fr S H S' H' → P.bk env S' → D'.bk σ H'
  ct : ∀ {env S' σ H'}, At K G F S' H' env σ → Fr S H S' H' → P.ct env S' → D'.ct σ H'
theorem EndsOk.fr {K : PySem.W.Frag} {G : Gd} {F : Addr → Prop} {S S' : Store} {H H' : Hp} {P : PEnds} {D' : Ends} (e : EndsOk K G F S H P D') (f : Fr S H S' H') : EndsOk K G F S' H' P D' :=
  ⟨fun a g q => e.nx a (f.trans g) q, e.rt.fr f, fun a g q => e.bk a (f.trans g) q, fun a g q => e.ct a (f.trans g) q⟩
def SndS (K : PySem.W.Frag) (G : Gd) (t : TS) (w : WS) : Prop := ∀ {F : Addr → Prop} {S : Store} {H : Hp} {env : En} {σ : L2.St} {P : PEnds} {D' : Ends}, At K G F S H env σ → w P env S → EndsOk K G F S H P D' → t D' σ H
def SndG (K : PySem.W.Frag) (G : Gd) (t : TG) (w : WG) : Prop := ∀ {F : Addr → Prop} {S : Store} {H : Hp} {env : En} {σ : L2.St} {d : D} {v : V} {Q : En → Store → Prop} {Q' : L2.St → Hp → Prop}, At K G F S H env σ → RepD K F S H d v → w d env S Q →
  (∀ {env' S' σ' H'}, At K G F S' H' env' σ' → Fr S H S' H' → Q env' S' → Q' σ' H') → t v σ H Q'
def SndR (K : PySem.W.Frag) (r : R2) (f : D → D → Store → PQ → Prop) : Prop := ∀ {F : Addr → Prop} {S : Store} {H : Hp} {x y : V} {a b : D} {Q : PQ} {Q' : VK}, Ok K F S H → RepD K F S H a x → RepD K F S H b y → f a b S Q → Post K F S H Q Q' → r x y H Q'
def SndU (K : PySem.W.Frag) (r : V → Hp → VK → Prop) (f : D → Store → PQ → Prop) : Prop := ∀ {F : Addr → Prop} {S : Store} {H : Hp} {x : V} {a : D} {Q : PQ} {Q' : VK}, Ok K F S H → RepD K F S H a x → f a S Q → Post K F S H Q Q' → r x H Q'
def SndC (K : PySem.W.Frag) (r : List V → Hp → VK → Prop) (f : List D → Store → PQ → Prop) : Prop := ∀ {F : Addr → Prop} {S : Store} {H : Hp} {xs : List V} {as : List D} {Q : PQ} {Q' : VK}, Ok K F S H → RepDs K F S H as xs → f as S Q → Post K F S H Q Q' → r xs H Q'
def SndM (K : PySem.W.Frag) (r : V → List V → Hp → VK → Prop) (f : D → List D → Store → PQ → Prop) : Prop := ∀ {F : Addr → Prop} {S : Store} {H : Hp} {x : V} {xs : List V} {a : D} {as : List D} {Q : PQ} {Q' : VK}, Ok K F S H → RepD K F S H a x → RepDs K F S H as xs → f a as S Q → Post K F S H Q Q' → r x xs H Q'

/-! ### judgements -/
def DE (X : Cx) (G : Gd) (e : Expr) (w : WE) : Prop := ∃ t, PE X e t ∧ SndE X.K G t w
def DT (X : Cx) (G : Gd) (e : Expr) (w : WT) : Prop := ∃ t, PT X e t ∧ SndT X.K G t w
def DW (X : Cx) (G : Gd) (e : Expr) (w : WT) : Prop := ∃ t, PW X e t ∧ SndT X.K G t w
def DA (X : Cx) (G : Gd) (es : List Expr) (w : WA) : Prop := ∃ t, PA X es t ∧ SndA X.K G t w
def DS (X : Cx) (G : Gd) (s : Stmt) (w : WS) : Prop := ∃ t, PS X s t ∧ SndS X.K G t w
def DSs (X : Cx) (G : Gd) (s : List Stmt) (w : WS) : Prop := ∃ t, PSs X s t ∧ SndS X.K G t w
def DG (X : Cx) (G : Gd) (e : Expr) (w : WG) : Prop := ∃ t, PG X e t ∧ SndG X.K G t w

section
variable {X : Cx} {G : Gd} {a b c e : Expr} {es : List Expr} {wa wb wc : WE} {pos : Pos}
/-! ### names, constants -/
def wVar (i : Nat) : WE := fun env S Q => match env[i]? with
  | some (some d) => Q d S
  | _ => False
def wC (d : D) : WE := fun _ S Q => Q d S
theorem de_v (i : Nat) {x : Str} {pos : Pos} (hN : X.N[i]? = some x := by rfl) (hv : Vis X.env.scope x := by first | exact Or.inl rfl | exact Or.inr (Or.inl rfl) | exact Or.inr (Or.inr rfl)) (hd : (x == ("__debug__" : Str)) = false := by decide)
    (hcd : (x == ("__classdict__" : Str)) = false := by decide) : DE X G (.Name x pos) (wVar i) := ⟨_, pe_var hN hv hd hcd, by
  intro F S H env σ Q Q' at_ hw post
  unfold wVar at hw
  split at hw
  · rename_i d e
    obtain ⟨v, h1, h2⟩ := at_.en.at_ i d e
    exact ⟨v, h1, post.here at_.ok h2 hw⟩
  · exact hw.elim⟩
theorem snd_c {K : PySem.W.Frag} {d : D} {v : V} (h : ∀ F S H, RepD K F S H d v) : SndE K G (tC v) (wC d) := fun at_ hw post => post.here at_.ok (h _ _ _) hw
theorem de_int {i : Int} {j} : DE X G (.Constant (.int i) j pos) (wC (.int i)) := ⟨_, pe_int, snd_c fun _ _ _ => by rfl⟩
theorem de_bl {i : Bool} {j} : DE X G (.Constant (.bool i) j pos) (wC (.bl i)) := ⟨_, pe_bl, snd_c fun _ _ _ => by rfl⟩
theorem de_non {j} : DE X G (.Constant .none j pos) (wC .non) := ⟨_, pe_non, snd_c fun _ _ _ => by rfl⟩
theorem de_str {i : Str} {j} : DE X G (.Constant (.str i) j pos) (wC (.str i)) := ⟨_, pe_str, snd_c fun _ _ _ => by rfl⟩
theorem de_globS {x y : Str} {t : Tok} (hm : X.mg x = some (.str y t)) (hg : Gl X x := by rfl) (hd : (x == ("__debug__" : Str)) = false := by decide) : DE X G (.Name x pos) (wC (.str y)) := ⟨_, pe_glob (v := .str y) hg hm ⟨_, rfl⟩ hd, snd_c fun _ _ _ => by rfl⟩
theorem de_globI {x : Str} {i : Int} {t : Tok} (hm : X.mg x = some (.int i t)) (hg : Gl X x := by rfl) (hd : (x == ("__debug__" : Str)) = false := by decide) : DE X G (.Name x pos) (wC (.int i)) := ⟨_, pe_glob (v := .int i) hg hm ⟨_, rfl⟩ hd, snd_c fun _ _ _ => by rfl⟩
theorem de_globR {x : Str} {a : Addr} (hm : X.mg x = some (.ref a)) (hg : Gl X x := by rfl) (hd : (x == ("__debug__" : Str)) = false := by decide) : DE X G (.Name x pos) (wC (.ref a)) := ⟨_, pe_glob (v := .ref a) hg hm rfl hd, snd_c fun _ _ _ => by rfl⟩
theorem de_bltT {x : Str} {n : String} (hm : X.mg x = none) (hv : bootBuiltins x = some (.type n)) (hg : Gl X x := by rfl) (hn : x ≠ "__name__" := by decide) (hd : (x == ("__debug__" : Str)) = false := by decide) : DE X G (.Name x pos) (wC (.ty n)) :=
  ⟨_, pe_bltn (v := .ty n) hg hm hv rfl hn hd, snd_c fun _ _ _ => by rfl⟩

/-! ### operators -/
def wOp (f : D → D → Store → PQ → Prop) (wa wb : WE) : WE := fun env S Q => wa env S fun x S1 => wb env S1 fun y S2 => f x y S2 Q
theorem snd_op {K : PySem.W.Frag} {ta tb : TE} {r : R2} {f : D → D → Store → PQ → Prop} (ha : SndE K G ta wa) (hb : SndE K G tb wb) (hr : SndR K r f) : SndE K G (tOp r ta tb) (wOp f wa wb) := fun at_ hw post =>
  ha at_ hw fun x H1 dx S1 ok1 f1 r1 q1 => hb (at_.to ok1 f1) q1 fun y H2 dy S2 ok2 f2 r2 q2 => hr ok2 (RepD.mv f2.mv _ _ r1) r2 q2 (post.fr (f1.trans f2))
theorem de_op {op : Operator} {r : R2} {f : D → D → Store → PQ → Prop} (ho : OpR X (binaryOp op) r) (hf : SndR X.K r f) (ha : DE X G a wa) (hb : DE X G b wb) : DE X G (.BinOp a op b pos) (wOp f wa wb) :=
  let ⟨_, p1, s1⟩ := ha; let ⟨_, p2, s2⟩ := hb; ⟨_, pe_op ho p1 p2, snd_op s1 s2 hf⟩
theorem de_cmp {op : CmpOp} {r : R2} {f : D → D → Store → PQ → Prop} (ho : OpR X (compareOp op) r) (hf : SndR X.K r f) (ha : DE X G a wa) (hb : DE X G b wb) (hm : behindInMarks op b = false := by first | exact nomark _ | rfl) : DE X G (.Compare a [op] [b] pos) (wOp f wa wb) :=
  let ⟨_, p1, s1⟩ := ha; let ⟨_, p2, s2⟩ := hb; ⟨_, pe_cmpR ho p1 p2 hm, snd_op s1 s2 hf⟩
theorem de_ix {r : R2} {f : D → D → Store → PQ → Prop} (ho : IxR X r) (hf : SndR X.K r f) (ha : DE X G a wa) (hb : DE X G b wb) (hs : PlainIx b := by exact fun _ _ => rfl) : DE X G (.Subscript a b pos) (wOp f wa wb) :=
  let ⟨_, p1, s1⟩ := ha; let ⟨_, p2, s2⟩ := hb; ⟨_, pe_ix ho p1 p2 hs, snd_op s1 s2 hf⟩
def wUn (f : D → Store → PQ → Prop) (wa : WE) : WE := fun env S Q => wa env S fun x S1 => f x S1 Q
theorem de_un {op : UnaryOp} {r : V → Hp → VK → Prop} {f : D → Store → PQ → Prop} (ho : UnR X (unaryOp op) r) (hf : SndU X.K r f) (ha : DE X G a wa) : DE X G (.UnaryOp op a pos) (wUn f wa) :=
  let ⟨_, p1, s1⟩ := ha; ⟨_, pe_un ho p1, fun at_ hw post => s1 at_ hw fun x H1 dx S1 ok1 f1 r1 q1 => hf ok1 r1 q1 (post.fr f1)⟩
/-- ints in, under C, a value out -/
def fI (C : Int → Int → Prop) (g : Int → Int → D) (x y : D) (S : Store) (Q : PQ) : Prop := match x, y with
  | .int i, .int j => C i j ∧ Q (g i j) S
  | _, _ => False
def fI0 (g : Int → Int → D) (x y : D) (S : Store) (Q : PQ) : Prop := match x, y with
  | .int i, .int j => Q (g i j) S
  | _, _ => False
theorem fI_is {C : Int → Int → Prop} {g : Int → Int → D} {x y : D} {S : Store} {Q : PQ} (h : fI C g x y S Q) : ∃ i j, x = .int i ∧ y = .int j ∧ C i j ∧ Q (g i j) S := by
  unfold fI at h
  split at h
  · exact ⟨_, _, rfl, rfl, h.1, h.2⟩
  · exact h.elim
theorem fI0_is {g : Int → Int → D} {x y : D} {S : Store} {Q : PQ} (h : fI0 g x y S Q) : ∃ i j, x = .int i ∧ y = .int j ∧ Q (g i j) S := by
  unfold fI0 at h
  split at h
  · exact ⟨_, _, rfl, rfl, h⟩
  · exact h.elim
theorem sr_I {K : PySem.W.Frag} {C : Int → Int → Prop} {g : Int → Int → D} {g' : Int → Int → V} (hg : ∀ F S H i j, RepD K F S H (g i j) (g' i j)) : SndR K (rI C g') (fI C g) := fun ok r1 r2 hf post => by
  obtain ⟨i, j, rfl, rfl, hc, q⟩ := fI_is hf
  exact ⟨i, j, r1, r2, hc, post.here ok (hg _ _ _ _ _) q⟩
theorem sr_I0 {K : PySem.W.Frag} {g : Int → Int → D} {g' : Int → Int → V} (hg : ∀ F S H i j, RepD K F S H (g i j) (g' i j)) : SndR K (rI0 g') (fI0 g) := fun ok r1 r2 hf post => by
  obtain ⟨i, j, rfl, rfl, q⟩ := fI0_is hf
  exact ⟨i, j, r1, r2, post.here ok (hg _ _ _ _ _) q⟩
theorem de_add (ha : DE X G a wa) (hb : DE X G b wb) : DE X G (.BinOp a .Add b pos) (wOp (fI0 fun i j => .int (i + j)) wa wb) := de_op op_add (sr_I0 fun _ _ _ _ _ => by rfl) ha hb
theorem de_sub (ha : DE X G a wa) (hb : DE X G b wb) : DE X G (.BinOp a .Sub b pos) (wOp (fI0 fun i j => .int (i - j)) wa wb) := de_op op_sub (sr_I0 fun _ _ _ _ _ => by rfl) ha hb
theorem de_mul (ha : DE X G a wa) (hb : DE X G b wb) : DE X G (.BinOp a .Mult b pos) (wOp (fI CMul fun i j => .int (i * j)) wa wb) := de_op op_mul (sr_I fun _ _ _ _ _ => by rfl) ha hb
theorem de_mod (ha : DE X G a wa) (hb : DE X G b wb) : DE X G (.BinOp a .Mod b pos) (wOp (fI (fun _ j => 0 < j) fun i j => .int (i % j)) wa wb) := de_op op_mod (sr_I fun _ _ _ _ _ => by rfl) ha hb
theorem de_fdiv (ha : DE X G a wa) (hb : DE X G b wb) : DE X G (.BinOp a .FloorDiv b pos) (wOp (fI CDiv fun i j => .int (i / j)) wa wb) := de_op op_fdiv (sr_I fun _ _ _ _ _ => by rfl) ha hb
theorem de_pow (ha : DE X G a wa) (hb : DE X G b wb) : DE X G (.BinOp a .Pow b pos) (wOp (fI CPow fun i j => .int (i ^ j.toNat)) wa wb) := de_op op_pow (sr_I fun _ _ _ _ _ => by rfl) ha hb
def fLt := fI0 fun i j => .bl (decide (i < j))
def fLe := fI0 fun i j => .bl (decide (i ≤ j))
def fGt := fI0 fun i j => .bl (decide (j < i))
def fGe := fI0 fun i j => .bl (decide (j ≤ i))
theorem sr_lt {K : PySem.W.Frag} : SndR K (rI0 fun i j => .bl (decide (i < j))) fLt := sr_I0 fun _ _ _ _ _ => by rfl
theorem sr_le {K : PySem.W.Frag} : SndR K (rI0 fun i j => .bl (decide (i ≤ j))) fLe := sr_I0 fun _ _ _ _ _ => by rfl
theorem sr_gt {K : PySem.W.Frag} : SndR K (rI0 fun i j => .bl (decide (j < i))) fGt := sr_I0 fun _ _ _ _ _ => by rfl
theorem sr_ge {K : PySem.W.Frag} : SndR K (rI0 fun i j => .bl (decide (j ≤ i))) fGe := sr_I0 fun _ _ _ _ _ => by rfl
/-- == of scalars -/
def eqS : D → D → Option Bool
  | .non, .non => some true | .non, .int _ => some false | .int _, .non => some false | .non, .bl _ => some false | .bl _, .non => some false | .non, .str _ => some false | .str _, .non => some false
  | .int i, .int j => some (decide (i = j)) | .bl i, .bl j => some (decide (i = j)) | .str i, .str j => some (decide (i = j))
  | .int _, .str _ => some false | .str _, .int _ => some false | .bl _, .str _ => some false | .str _, .bl _ => some false
  | _, _ => none
def fEq (x y : D) (S : Store) (Q : PQ) : Prop := match eqS x y with
  | some k => Q (.bl k) S
  | none => False
def fNe (x y : D) (S : Store) (Q : PQ) : Prop := match eqS x y with
  | some k => Q (.bl (!k)) S
  | none => False
theorem eqS_is {K : PySem.W.Frag} {F : Addr → Prop} {S : Store} {H : Hp} {a b : D} {x y : V} {k : Bool} (r1 : RepD K F S H a x) (r2 : RepD K F S H b y) (h : eqS a b = some k) : scal x y = true ∧ decide (x = y) = k := by
  cases a <;> cases b <;> simp only [eqS, Option.some.injEq, reduceCtorEq] at h
  all_goals (subst h; cases r1; cases r2; exact ⟨rfl, by simp⟩)
theorem sr_eq {K : PySem.W.Frag} : SndR K rEq fEq := fun ok r1 r2 hf post => by
  unfold fEq at hf
  split at hf
  · rename_i k e
    obtain ⟨h1, h2⟩ := eqS_is r1 r2 e
    exact ⟨h1, by rw [h2]; exact post.here ok (d := .bl k) rfl hf⟩
  · exact hf.elim
theorem sr_ne {K : PySem.W.Frag} : SndR K rNe fNe := fun ok r1 r2 hf post => by
  unfold fNe at hf
  split at hf
  · rename_i k e
    obtain ⟨h1, h2⟩ := eqS_is r1 r2 e
    exact ⟨h1, by rw [h2]; exact post.here ok (d := .bl (!k)) rfl hf⟩
  · exact hf.elim
theorem de_lt (ha : DE X G a wa) (hb : DE X G b wb) : DE X G (.Compare a [.Lt] [b] pos) (wOp fLt wa wb) := de_cmp op_lt sr_lt ha hb
theorem de_le (ha : DE X G a wa) (hb : DE X G b wb) : DE X G (.Compare a [.LtE] [b] pos) (wOp fLe wa wb) := de_cmp op_le sr_le ha hb
theorem de_gt (ha : DE X G a wa) (hb : DE X G b wb) : DE X G (.Compare a [.Gt] [b] pos) (wOp fGt wa wb) := de_cmp op_gt sr_gt ha hb
theorem de_ge (ha : DE X G a wa) (hb : DE X G b wb) : DE X G (.Compare a [.GtE] [b] pos) (wOp fGe wa wb) := de_cmp op_ge sr_ge ha hb
theorem de_eq (ha : DE X G a wa) (hb : DE X G b wb) : DE X G (.Compare a [.Eq] [b] pos) (wOp fEq wa wb) := de_cmp op_eq sr_eq ha hb
theorem de_ne (ha : DE X G a wa) (hb : DE X G b wb) : DE X G (.Compare a [.NotEq] [b] pos) (wOp fNe wa wb) := de_cmp op_ne sr_ne ha hb
/-- a op b op' c -/
def wChain (f f' : D → D → Store → PQ → Prop) (wa wb wc : WE) : WE := fun env S Q => wa env S fun x S1 => wb env S1 fun y S2 => f x y S2 fun z S3 => match z with
  | .bl true => wc env S3 fun w' S4 => f' y w' S4 Q
  | .bl false => Q (.bl false) S3
  | _ => False
theorem de_chain {op op' : CmpOp} {r r' : R2} {f f' : D → D → Store → PQ → Prop} (ho : OpR X (compareOp op) r) (ho' : OpR X (compareOp op') r') (hf : SndR X.K r f) (hf' : SndR X.K r' f') (ha : DE X G a wa) (hb : DE X G b wb) (hc : DE X G c wc)
    (hm : lastMarks [op, op'] [b, c] = false := by with_unfolding_all rfl) : DE X G (.Compare a [op, op'] [b, c] pos) (wChain f f' wa wb wc) :=
  let ⟨_, p1, s1⟩ := ha; let ⟨_, p2, s2⟩ := hb; let ⟨_, p3, s3⟩ := hc; ⟨_, pe_chain ho ho' p1 p2 p3 hm, by
    intro F S H env σ Q Q' at_ hw post
    refine s1 at_ hw fun x H1 dx S1 ok1 f1 r1 q1 => s2 (at_.to ok1 f1) q1 fun y H2 dy S2 ok2 f2 r2 q2 => ?_
    refine hf ok2 (RepD.mv f2.mv _ _ r1) r2 q2 fun z H3 dz S3 ok3 f3 r3 q3 => ?_
    cases dz <;> first | exact q3.elim | skip
    rename_i k
    refine ⟨k, r3, ?_⟩
    have fr3 := (f1.trans f2).trans f3
    cases k with
    | true =>
      rw [if_pos rfl]
      exact s3 (at_.to ok3 fr3) q3 fun u H4 du S4 ok4 f4 r4 q4 => hf' ok4 (RepD.mv (f3.trans f4).mv _ _ r2) r4 q4 (post.fr (fr3.trans f4))
    | false =>
      rw [if_neg Bool.false_ne_true]
      exact (post.fr fr3).here ok3 (d := .bl false) rfl q3⟩

/-! ### and, or, not, if as values -/
def wAndV (wa wb : WE) : WE := fun env S Q => wa env S fun x S1 => match x with
  | .bl true => wb env S1 Q
  | .bl false => Q (.bl false) S1
  | _ => False
def wOrV (wa wb : WE) : WE := fun env S Q => wa env S fun x S1 => match x with
  | .bl true => Q (.bl true) S1
  | .bl false => wb env S1 Q
  | _ => False
def wNotV (wa : WE) : WE := fun env S Q => wa env S fun x S1 => match x with
  | .bl c => Q (.bl (!c)) S1
  | _ => False
theorem de_one {op} (h : DE X G a wa) : DE X G (.BoolOp op [a] pos) wa := let ⟨_, p, s⟩ := h; ⟨_, pe_one p, s⟩
theorem de_and {rest : List Expr} (ha : DE X G a wa) (hb : DE X G (.BoolOp .And (b :: rest) pos) wb) : DE X G (.BoolOp .And (a :: b :: rest) pos) (wAndV wa wb) :=
  let ⟨_, p1, s1⟩ := ha; let ⟨_, p2, s2⟩ := hb; ⟨_, pe_and p1 p2, fun at_ hw post => s1 at_ hw fun x H1 dx S1 ok1 f1 r1 q1 => by
    cases dx <;> first | exact q1.elim | skip
    rename_i k
    refine ⟨k, r1, ?_⟩
    cases k with
    | true => rw [if_pos rfl]; exact s2 (at_.to ok1 f1) q1 (post.fr f1)
    | false => rw [if_neg Bool.false_ne_true]; exact (post.fr f1).here ok1 (d := .bl false) rfl q1⟩
theorem de_or {rest : List Expr} (ha : DE X G a wa) (hb : DE X G (.BoolOp .Or (b :: rest) pos) wb) : DE X G (.BoolOp .Or (a :: b :: rest) pos) (wOrV wa wb) :=
  let ⟨_, p1, s1⟩ := ha; let ⟨_, p2, s2⟩ := hb; ⟨_, pe_or p1 p2, fun at_ hw post => s1 at_ hw fun x H1 dx S1 ok1 f1 r1 q1 => by
    cases dx <;> first | exact q1.elim | skip
    rename_i k
    refine ⟨k, r1, ?_⟩
    cases k with
    | true => rw [if_pos rfl]; exact (post.fr f1).here ok1 (d := .bl true) rfl q1
    | false => rw [if_neg Bool.false_ne_true]; exact s2 (at_.to ok1 f1) q1 (post.fr f1)⟩
theorem de_not (ha : DE X G a wa) : DE X G (.UnaryOp .Not a pos) (wNotV wa) :=
  let ⟨_, p1, s1⟩ := ha; ⟨_, pe_not p1, fun at_ hw post => s1 at_ hw fun x H1 dx S1 ok1 f1 r1 q1 => by
    cases dx <;> first | exact q1.elim | skip
    rename_i k
    exact ⟨k, r1, (post.fr f1).here ok1 (d := .bl (!k)) rfl q1⟩⟩
def wIf (wt : WT) (wa wb : WE) : WE := fun env S Q => wt env S fun k S1 => match k with
  | true => wa env S1 Q
  | false => wb env S1 Q
theorem de_if {wt : WT} (hc : DT X G c wt) (ha : DE X G a wa) (hb : DE X G b wb) : DE X G (.IfExp c a b pos) (wIf wt wa wb) :=
  let ⟨_, p0, s0⟩ := hc; let ⟨_, p1, s1⟩ := ha; let ⟨_, p2, s2⟩ := hb; ⟨_, pe_ifExp p0 p1 p2, fun at_ hw post => s0 at_ hw fun k H1 S1 ok1 f1 q1 => by
    cases k with
    | true => rw [if_pos rfl]; exact s1 (at_.to ok1 f1) q1 (post.fr f1)
    | false => rw [if_neg Bool.false_ne_true]; exact s2 (at_.to ok1 f1) q1 (post.fr f1)⟩

/-! ### tests -/
def wB (wa : WE) : WT := fun env S Q => wa env S fun x S1 => match x with
  | .bl c => Q c S1
  | _ => False
theorem snd_B {K : PySem.W.Frag} {t : TE} (h : SndE K G t wa) : SndT K G (tB t) (wB wa) := fun at_ hw post => h at_ hw fun x H1 dx S1 ok1 f1 r1 q1 => by
  cases dx <;> first | exact q1.elim | skip
  rename_i k
  exact ⟨k, r1, post k H1 S1 ok1 f1 q1⟩
theorem dt_val (h : DE X G e wa) (he : ∀ whole, isTrue e X.env whole = (do let v ← whole; standAt e.pos; holding [v] (truthy v)) := by intro _; rfl) : DT X G e (wB wa) := let ⟨_, p, s⟩ := h; ⟨_, pt_val p he, snd_B s⟩
theorem dt_cmp {op : CmpOp} {r : R2} {f : D → D → Store → PQ → Prop} (ho : OpR X (compareOp op) r) (hf : SndR X.K r f) (ha : DE X G a wa) (hb : DE X G b wb) (hm : behindInMarks op b = false := by first | exact nomark _ | rfl) : DT X G (.Compare a [op] [b] pos) (wB (wOp f wa wb)) :=
  let ⟨_, p1, s1⟩ := ha; let ⟨_, p2, s2⟩ := hb; ⟨_, pt_cmpR ho p1 p2 hm, snd_B (snd_op s1 s2 hf)⟩
theorem dt_lt (ha : DE X G a wa) (hb : DE X G b wb) : DT X G (.Compare a [.Lt] [b] pos) (wB (wOp fLt wa wb)) := dt_cmp op_lt sr_lt ha hb
theorem dt_le (ha : DE X G a wa) (hb : DE X G b wb) : DT X G (.Compare a [.LtE] [b] pos) (wB (wOp fLe wa wb)) := dt_cmp op_le sr_le ha hb
theorem dt_gt (ha : DE X G a wa) (hb : DE X G b wb) : DT X G (.Compare a [.Gt] [b] pos) (wB (wOp fGt wa wb)) := dt_cmp op_gt sr_gt ha hb
theorem dt_ge (ha : DE X G a wa) (hb : DE X G b wb) : DT X G (.Compare a [.GtE] [b] pos) (wB (wOp fGe wa wb)) := dt_cmp op_ge sr_ge ha hb
theorem dt_eq (ha : DE X G a wa) (hb : DE X G b wb) : DT X G (.Compare a [.Eq] [b] pos) (wB (wOp fEq wa wb)) := dt_cmp op_eq sr_eq ha hb
theorem dt_ne (ha : DE X G a wa) (hb : DE X G b wb) : DT X G (.Compare a [.NotEq] [b] pos) (wB (wOp fNe wa wb)) := dt_cmp op_ne sr_ne ha hb
theorem dt_chain {op op' : CmpOp} {r r' : R2} {f f' : D → D → Store → PQ → Prop} (ho : OpR X (compareOp op) r) (ho' : OpR X (compareOp op') r') (hf : SndR X.K r f) (hf' : SndR X.K r' f') (ha : DE X G a wa) (hb : DE X G b wb) (hc : DE X G c wc)
    (hm : lastMarks [op, op'] [b, c] = false := by with_unfolding_all rfl) : DT X G (.Compare a [op, op'] [b, c] pos) (wB (wChain f f' wa wb wc)) :=
  let ⟨_, p1, s1⟩ := ha; let ⟨_, p2, s2⟩ := hb; let ⟨_, p3, s3⟩ := hc; ⟨_, pt_chain ho ho' p1 p2 p3 hm, by
    refine snd_B (t := tChain r r' _ _ _) ?_
    intro F S H env σ Q Q' at_ hw post
    refine s1 at_ hw fun x H1 dx S1 ok1 f1 r1 q1 => s2 (at_.to ok1 f1) q1 fun y H2 dy S2 ok2 f2 r2 q2 => ?_
    refine hf ok2 (RepD.mv f2.mv _ _ r1) r2 q2 fun z H3 dz S3 ok3 f3 r3 q3 => ?_
    cases dz <;> first | exact q3.elim | skip
    rename_i k
    refine ⟨k, r3, ?_⟩
    have fr3 := (f1.trans f2).trans f3
    cases k with
    | true =>
      rw [if_pos rfl]
      exact s3 (at_.to ok3 fr3) q3 fun u H4 du S4 ok4 f4 r4 q4 => hf' ok4 (RepD.mv (f3.trans f4).mv _ _ r2) r4 q4 (post.fr (fr3.trans f4))
    | false =>
      rw [if_neg Bool.false_ne_true]
      exact (post.fr fr3).here ok3 (d := .bl false) rfl q3⟩
variable {wt wu : WT}
def wAnd (wt wu : WT) : WT := fun env S Q => wt env S fun k S1 => match k with
  | true => wu env S1 Q
  | false => Q false S1
def wOr (wt wu : WT) : WT := fun env S Q => wt env S fun k S1 => match k with
  | true => Q true S1
  | false => wu env S1 Q
def wNot (wt : WT) : WT := fun env S Q => wt env S fun k S1 => Q (!k) S1
theorem DW.dt (h : DW X G e wt) : DT X G e wt := let ⟨_, p, s⟩ := h; ⟨_, p.pt, s⟩
theorem dw_and1 (h : DT X G a wt) : DW X G (.BoolOp .And [a] pos) wt := let ⟨_, p, s⟩ := h; ⟨_, pw_and1 p, s⟩
theorem dw_or1 (h : DT X G a wt) : DW X G (.BoolOp .Or [a] pos) wt := let ⟨_, p, s⟩ := h; ⟨_, pw_or1 p, s⟩
theorem dw_and {rest : List Expr} (ha : DT X G a wt) (hb : DW X G (.BoolOp .And (b :: rest) pos) wu) : DW X G (.BoolOp .And (a :: b :: rest) pos) (wAnd wt wu) :=
  let ⟨_, p1, s1⟩ := ha; let ⟨_, p2, s2⟩ := hb; ⟨_, pw_and p1 p2, fun at_ hw post => s1 at_ hw fun k H1 S1 ok1 f1 q1 => by
    cases k with
    | true => rw [if_pos rfl]; exact s2 (at_.to ok1 f1) q1 (post.fr f1)
    | false => rw [if_neg Bool.false_ne_true]; exact post false H1 S1 ok1 f1 q1⟩
theorem dw_or {rest : List Expr} (ha : DT X G a wt) (hb : DW X G (.BoolOp .Or (b :: rest) pos) wu) : DW X G (.BoolOp .Or (a :: b :: rest) pos) (wOr wt wu) :=
  let ⟨_, p1, s1⟩ := ha; let ⟨_, p2, s2⟩ := hb; ⟨_, pw_or p1 p2, fun at_ hw post => s1 at_ hw fun k H1 S1 ok1 f1 q1 => by
    cases k with
    | true => rw [if_pos rfl]; exact post true H1 S1 ok1 f1 q1
    | false => rw [if_neg Bool.false_ne_true]; exact s2 (at_.to ok1 f1) q1 (post.fr f1)⟩
theorem dt_not (ha : DT X G a wt) : DT X G (.UnaryOp .Not a pos) (wNot wt) :=
  let ⟨_, p1, s1⟩ := ha; ⟨_, pt_not p1, fun at_ hw post => s1 at_ hw fun k H1 S1 ok1 f1 q1 => post (!k) H1 S1 ok1 f1 q1⟩

/-! ### argument lists, displays -/
variable {wr : WA}
def wNil : WA := fun _ S Q => Q [] S
def wCons (wa : WE) (wr : WA) : WA := fun env S Q => wa env S fun x S1 => wr env S1 fun xs S2 => Q (x :: xs) S2
theorem da_nil : DA X G [] wNil := ⟨_, pa_nil, fun at_ hw post => post [] _ [] _ at_.ok (Fr.refl _ _) rfl hw⟩
theorem da_cons (ha : DE X G e wa) (hr : DA X G es wr) (hs : starEach (e :: es) X.env = (false, eval e X.env) :: starEach es X.env := by rfl) : DA X G (e :: es) (wCons wa wr) :=
  let ⟨_, p1, s1⟩ := ha; let ⟨_, p2, s2⟩ := hr; ⟨_, pa_cons p1 p2 hs, fun at_ hw post => s1 at_ hw fun x H1 dx S1 ok1 f1 r1 q1 => s2 (at_.to ok1 f1) q1 fun xs H2 ds S2 ok2 f2 r2 q2 =>
    post (x :: xs) H2 (dx :: ds) S2 ok2 (f1.trans f2) ⟨x, xs, rfl, RepD.mv f2.mv _ _ r1, r2⟩ q2⟩
def wTup (wr : WA) : WE := fun env S Q => wr env S fun xs S1 => xs.length ≤ sizeLine ∧ Q (.tup xs) S1
def wLst (wr : WA) : WE := fun env S Q => wr env S fun xs S1 => xs.length ≤ sizeLine ∧ Q (.lst xs) S1
def wLstC (wr : WA) : WE := fun env S Q => wr env S fun xs S1 => xs.length ≤ sizeLine ∧ ∀ a, S1 a = none → Q (.cel a) (sset S1 a (.lst xs))
theorem de_tup {x1} (h : DA X G es wr) : DE X G (.Tuple es x1 pos) (wTup wr) := let ⟨_, p, s⟩ := h; ⟨_, pe_tup p, fun at_ hw post => s at_ hw fun xs H1 ds S1 ok1 f1 r1 q1 => ⟨by rw [← r1.length]; exact q1.1, fun p hp => (post.fr f1).newT ok1 r1 q1.2 hp⟩⟩
theorem de_lst (h : DA X G es wr) : DE X G (.List es pos) (wLst wr) := let ⟨_, p, s⟩ := h; ⟨_, pe_lst p, fun at_ hw post => s at_ hw fun xs H1 ds S1 ok1 f1 r1 q1 => ⟨by rw [← r1.length]; exact q1.1, fun p hp => (post.fr f1).newL ok1 r1 q1.2 hp⟩⟩
theorem de_lstC (h : DA X G es wr) : DE X G (.List es pos) (wLstC wr) := let ⟨_, p, s⟩ := h; ⟨_, pe_lst p, fun at_ hw post => s at_ hw fun xs H1 ds S1 ok1 f1 r1 q1 => ⟨by rw [← r1.length]; exact q1.1, fun p hp => (post.fr f1).newC ok1 r1 q1.2 hp⟩⟩

/-! ### calls of built-ins, methods of built-ins -/
def wCB (f : List D → Store → PQ → Prop) (wr : WA) : WE := fun env S Q => wr env S fun xs S1 => f xs S1 Q
theorem snd_cb {K : PySem.W.Frag} {t : TA} {r : List V → Hp → VK → Prop} {f : List D → Store → PQ → Prop} (h : SndA K G t wr) (hf : SndC K r f) : SndE K G (tCB r t) (wCB f wr) := fun at_ hw post => h at_ hw fun xs H1 ds S1 ok1 f1 r1 q1 => hf ok1 r1 q1 (post.fr f1)
theorem de_callB {x : Str} {p : Pos} {id : String} {r : List V → Hp → VK → Prop} {f : List D → Store → PQ → Prop} (hc : CallR X (.builtin id) r) (hf : SndC X.K r f) (hm : X.mg x = none) (ha : DA X G (e :: es) wr) (hv : bootBuiltins x = some (.builtin id) := by decide +kernel) (hg : Gl X x := by rfl) (hn : x ≠ "__name__" := by decide) (hdb : (x == ("__debug__" : Str)) = false := by decide)
    (he : starEach (e :: es) X.env = (false, eval e X.env) :: starEach es X.env := by rfl) (hpl : (backTo pos (starEach es X.env)).any (·.1) = false := by rfl) : DE X G (.Call (.Name x p) (e :: es) [] pos) (wCB f wr) :=
  let ⟨_, p, s⟩ := ha; ⟨_, pe_callB hc hg hm hv p hn hdb he hpl, snd_cb s hf⟩
theorem de_callTy {x : Str} {p : Pos} {T : String} {r : List V → Hp → VK → Prop} {f : List D → Store → PQ → Prop} (hc : CallR X (.type T) r) (hf : SndC X.K r f) (hm : X.mg x = none) (ha : DA X G (e :: es) wr) (hv : bootBuiltins x = some (.type T) := by decide +kernel) (hg : Gl X x := by rfl) (hn : x ≠ "__name__" := by decide) (hdb : (x == ("__debug__" : Str)) = false := by decide)
    (he : starEach (e :: es) X.env = (false, eval e X.env) :: starEach es X.env := by rfl) (hpl : (backTo pos (starEach es X.env)).any (·.1) = false := by rfl) : DE X G (.Call (.Name x p) (e :: es) [] pos) (wCB f wr) :=
  let ⟨_, p, s⟩ := ha; ⟨_, pe_callTy hc hg hm hv p hn hdb he hpl, snd_cb s hf⟩
end
end Pz

set_option Elab.async false
set_option linter.all false
set_option maxRecDepth 100000
set_option maxHeartbeats 4000000
namespace Pz
open PySem PySem.Spec PyProof.Rows L2

/-! ### targets -/
/-- slots beside vs are as they were -/
def Out (vs : List Nat) (σ σ' : L2.St) : Prop := σ'.length = σ.length ∧ ∀ j, j ∉ vs → σ'[j]? = σ[j]?
theorem wipe_get (σ : L2.St) (j : Nat) : ∀ vs : List Nat, (wipe σ vs)[j]? = if j ∈ vs ∧ j < σ.length then some none else σ[j]?
  | [] => by simp [wipe]
  | v :: vs => by
    unfold wipe
    by_cases h : v = j
    · subst h
      by_cases hl : v < σ.length
      · rw [List.getElem?_set_self (by rw [wipe_length]; exact hl), if_pos ⟨by simp, hl⟩]
      · rw [if_neg (fun z => hl z.2), List.getElem?_eq_none (by rw [List.length_set, wipe_length]; omega), List.getElem?_eq_none (by omega)]
    · rw [List.getElem?_set_ne h, wipe_get σ j vs]
      have e : (j ∈ v :: vs ∧ j < σ.length) = (j ∈ vs ∧ j < σ.length) := by
        have h' : ¬ j = v := fun z => h z.symm
        simp [h']
      simp only [e]
theorem Out.wipe {vs : List Nat} {σ σ' : L2.St} (o : Out vs σ σ') : wipe σ' vs = wipe σ vs := by
  refine List.ext_getElem? fun j => ?_
  rw [wipe_get, wipe_get, o.1]
  by_cases h : j ∈ vs
  · by_cases hl : j < σ.length
    · rw [if_pos ⟨h, hl⟩, if_pos ⟨h, hl⟩]
    · rw [if_neg (fun z => hl z.2), if_neg (fun z => hl z.2), List.getElem?_eq_none (by rw [o.1]; omega), List.getElem?_eq_none (by omega)]
  · rw [if_neg (fun z => h z.1), if_neg (fun z => h z.1), o.2 j h]
theorem Out.refl (vs : List Nat) (σ : L2.St) : Out vs σ σ := ⟨rfl, fun _ _ => rfl⟩
theorem Out.trans {vs : List Nat} {σ σ1 σ2 : L2.St} (a : Out vs σ σ1) (b : Out vs σ1 σ2) : Out vs σ σ2 := ⟨b.1.trans a.1, fun j h => (b.2 j h).trans (a.2 j h)⟩
theorem Out.mono {vs ws : List Nat} {σ σ' : L2.St} (a : Out vs σ σ') (h : ∀ j, j ∈ vs → j ∈ ws) : Out ws σ σ' := ⟨a.1, fun j hj => a.2 j fun z => hj (h j z)⟩
theorem Out.set (σ : L2.St) (i : Nat) (v : Option V) : Out [i] σ (σ.set i v) := ⟨List.length_set, fun j h => List.getElem?_set_ne (fun z => h (by simp [z]))⟩
def SndGv (K : PySem.W.Frag) (G : Gd) (t : TG) (w : WG) (vs : List Nat) : Prop := ∀ {F : Addr → Prop} {S : Store} {H : Hp} {env : En} {σ : L2.St} {d : D} {v : V} {Q : En → Store → Prop} {Q' : L2.St → Hp → Prop}, At K G F S H env σ → RepD K F S H d v → w d env S Q →
  (∀ {env' S' σ' H'}, At K G F S' H' env' σ' → Fr S H S' H' → Out vs σ σ' → Q env' S' → Q' σ' H') → t v σ H Q'
def DGv (X : Cx) (G : Gd) (e : Expr) (w : WG) (vs : List Nat) : Prop := ∃ t, PG X e t ∧ SndGv X.K G t w vs
abbrev WGs := List D → En → Store → (En → Store → Prop) → Prop
def SndGs (K : PySem.W.Frag) (G : Gd) (t : TGs) (w : WGs) (vs : List Nat) : Prop := ∀ {F : Addr → Prop} {S : Store} {H : Hp} {env : En} {σ : L2.St} {ds : List D} {us : List V} {Q : En → Store → Prop} {Q' : L2.St → Hp → Prop}, At K G F S H env σ → RepDs K F S H ds us → w ds env S Q →
  (∀ {env' S' σ' H'}, At K G F S' H' env' σ' → Fr S H S' H' → Out vs σ σ' → Q env' S' → Q' σ' H') → t us σ H Q'
def DGs (X : Cx) (G : Gd) (es : List Expr) (w : WGs) (vs : List Nat) : Prop := ∃ t, PGs X es t ∧ SndGs X.K G t w vs

/-! ### the canonical readings -/
def tOfE (K : PySem.W.Frag) (G : Gd) (w : WE) : TE := fun σ H Q' => ∃ F S env Q, At K G F S H env σ ∧ w env S Q ∧ Post K F S H Q Q'
def tOfT (K : PySem.W.Frag) (G : Gd) (w : WT) : TT := fun σ H Q' => ∃ F S env Q, At K G F S H env σ ∧ w env S Q ∧ PostT K F S H Q Q'
def tOfG (K : PySem.W.Frag) (G : Gd) (w : WG) (vs : List Nat) : TG := fun v σ H Q' => ∃ F S env d Q, At K G F S H env σ ∧ RepD K F S H d v ∧ w d env S Q ∧ ∀ {env' S' σ' H'}, At K G F S' H' env' σ' → Fr S H S' H' → Out vs σ σ' → Q env' S' → Q' σ' H'
section
variable {X : Cx} {G : Gd} {a b c e : Expr} {es : List Expr} {wa wb wc : WE} {pos : Pos} {wt wu : WT} {wr : WA}
theorem DE.pe (h : DE X G e wa) : PE X e (tOfE X.K G wa) := let ⟨_, p, s⟩ := h; ⟨fun pins s0 σ H Q I hw => let ⟨F, S, env, Qp, at_, q, post⟩ := hw; p.run pins s0 σ H Q I (s at_ q post)⟩
theorem DT.pt (h : DT X G e wt) : PT X e (tOfT X.K G wt) := let ⟨_, p, s⟩ := h; ⟨fun pins s0 σ H Q I hw => let ⟨F, S, env, Qp, at_, q, post⟩ := hw; p.run pins s0 σ H Q I (s at_ q post)⟩
theorem DGv.pg {w : WG} {vs : List Nat} (h : DGv X G e w vs) : PG X e (tOfG X.K G w vs) := let ⟨_, p, s⟩ := h; ⟨fun pins s0 σ H v u Q I r hw => let ⟨F, S, env, d, Qp, at_, rp, q, post⟩ := hw; p.run pins s0 σ H v u Q I r (s at_ rp q post)⟩
def gwName (i : Nat) : WG := fun d env S Q => Q (env.set i (some d)) S
theorem dg_name {i : Nat} {x : Str} (hN : X.N.Nodup) (hi : X.N[i]? = some x := by rfl) (hx : Loc X.env.scope x := by first | exact Or.inl rfl | exact Or.inr rfl) (hf : X.fn x = true ∨ X.env.scope.names.lookup x = some .local := by first | exact .inl rfl | exact .inr rfl | assumption) : DGv X G (.Name x pos) (gwName i) [i] :=
  ⟨_, pg_name hN hi hx hf, fun at_ r hw post => post (at_.set i r) (Fr.refl _ _) (Out.set _ i _) hw⟩
def gwNil : WGs := fun ds env S Q => match ds with
  | [] => Q env S
  | _ => False
def gwCons (w : WG) (ws : WGs) : WGs := fun ds env S Q => match ds with
  | d :: r => w d env S fun env' S' => ws r env' S' Q
  | [] => False
theorem dgs_nil : DGs X G [] gwNil [] := ⟨_, pgs_nil, fun {F S H env σ ds us Q Q'} at_ r hw post => by
  cases ds with
  | nil => cases r; exact ⟨rfl, post at_ (Fr.refl _ _) (Out.refl _ _) hw⟩
  | cons d ds => exact hw.elim⟩
theorem dgs_cons {w : WG} {ws : WGs} {vs us : List Nat} (h1 : DGv X G e w vs) (h2 : DGs X G es ws us) (hs : (assignEach (e :: es) X.env).map (·.2) = assign e X.env :: (assignEach es X.env).map (·.2) := by rfl) : DGs X G (e :: es) (gwCons w ws) (vs ++ us) :=
  let ⟨_, p1, s1⟩ := h1; let ⟨_, p2, s2⟩ := h2; ⟨_, pgs_cons p1 p2 hs, fun {F S H env σ ds us' Q Q'} at_ r hw post => by
    cases ds with
    | nil => exact hw.elim
    | cons d ds =>
      obtain ⟨v, rr, rfl, r1, r2⟩ := r
      refine ⟨v, rr, rfl, s1 at_ r1 hw fun at1 f1 o1 q1 => s2 at1 (RepDs.mv f1.mv _ _ r2) q1 fun at2 f2 o2 q2 => post at2 (f1.trans f2) ((o1.mono fun j h => List.mem_append_left _ h).trans (o2.mono fun j h => List.mem_append_right _ h)) q2⟩⟩
def gwTup (n : Nat) (ws : WGs) : WG := fun d env S Q => match d with
  | .tup ds => ds.length = n ∧ ws ds env S Q
  | _ => False
theorem dg_tup {k : Nat} {ws : WGs} {vs : List Nat} {n : Nat} (hc : X.calm = true) (h : DGs X G es ws vs) (hn : (assignEach es X.env).length = n := by rfl) (hst : (assignEach es X.env).findIdx? (·.1) = none := by rfl) : DGv X G (.Tuple es k pos) (gwTup n ws) vs :=
  let ⟨_, p, s⟩ := h; ⟨_, pg_tup hc p hn hst, fun {F S H env σ d v Q Q'} at_ r hw post => by
    cases d <;> first | exact hw.elim | skip
    obtain ⟨a, us, rfl, ht, rs⟩ := r
    exact ⟨a, us, rfl, ht.sq, by rw [← rs.length]; exact hw.1, s at_ rs hw.2 post⟩⟩
/-- o[i] = v, o a cell that is a list -/
def fSetL (o i v : D) (S : Store) (Q : Store → Prop) : Prop := match o, i with
  | .cel a, .int k => match S a with
    | some (.lst xs) => match ixN xs.length k with
      | some j => Q (sset S a (.lst (xs.set j v)))
      | none => False
    | _ => False
  | _, _ => False
def gwSub (wo wi : WE) : WG := fun d env S Q => wo env S fun o S1 => wi env S1 fun i S2 => fSetL o i d S2 fun S3 => Q env S3
theorem snd_setL {K : PySem.W.Frag} {F : Addr → Prop} {S : Store} {H : Hp} {o i v : D} {x y z : V} {Q : Store → Prop} {Q' : Hp → Prop} (ok : Ok K F S H) (r1 : RepD K F S H o x) (r2 : RepD K F S H i y) (r3 : RepD K F S H v z) (hw : fSetL o i v S Q)
    (post : ∀ S' H', Ok K F S' H' → Fr S H S' H' → Q S' → Q' H') : rSetL x y z H Q' := by
  unfold fSetL at hw
  split at hw
  · rename_i a k
    split at hw
    · rename_i xs e
      split at hw
      · rename_i j ej
        obtain ⟨_, vs, hv, rs⟩ := ok.cells a _ e
        refine ⟨a, vs, k, j, r1, r2, hv, by rw [← rs.length]; exact ej, ?_⟩
        have f : Fr S H (sset S a (.lst (xs.set j v))) (upd H a (.lst (vs.set j z))) := Fr.chg e
        exact post _ _ (ok.chg (c' := .lst (xs.set j v)) e ⟨_, upd_same, RepDs.set j (RepDs.mv f.mv _ _ rs) (RepD.mv f.mv _ _ r3)⟩) f hw
      · exact hw.elim
    · exact hw.elim
  · exact hw.elim
theorem dg_subL {o i : Expr} {wo wi : WE} (ho : DE X G o wo) (hi : DE X G i wi)
    (ha : ∀ v, assign (.Subscript o i pos) X.env v = (do
      let ov ← holding [v] (eval o X.env)
      let iv ← holding [v, ov] (eval i X.env)
      standAt pos
      holding [v, ov, iv] (setItem ov iv v)
      release [v, ov, iv] []) := by intro _; rfl) : DGv X G (.Subscript o i pos) (gwSub wo wi) [] :=
  let ⟨_, p1, s1⟩ := ho; let ⟨_, p2, s2⟩ := hi; ⟨_, pg_sub p1 p2 set_list ha, fun {F S H env σ d v Q Q'} at_ r hw post => s1 at_ hw fun x H1 dx S1 ok1 f1 r1 q1 => s2 (at_.to ok1 f1) q1 fun y H2 dy S2 ok2 f2 r2 q2 =>
    snd_setL ok2 (RepD.mv f2.mv _ _ r1) r2 (RepD.mv (f1.trans f2).mv _ _ r) q2 fun S3 H3 ok3 f3 q3 => post (at_.to ok3 ((f1.trans f2).trans f3)) ((f1.trans f2).trans f3) (Out.refl _ _) q3⟩

/-! ### statements -/
variable {st : Stmt} {rest : List Stmt} {w1 w2 : WS}
def wNext : WS := fun P env S => P.nx env S
def wSeq (w1 w2 : WS) : WS := fun P env S => w1 { P with nx := w2 P } env S
theorem dss_nil : DSs X G [] wNext := ⟨_, pss_nil, fun at_ hw e => e.nx at_ (Fr.refl _ _) hw⟩
theorem dss_cons (h1 : DS X G st w1) (h2 : DSs X G rest w2) : DSs X G (st :: rest) (wSeq w1 w2) := let ⟨_, p1, s1⟩ := h1; let ⟨_, p2, s2⟩ := h2; ⟨_, pss_cons p1 p2, fun at_ hw e => s1 at_ hw ⟨fun a f q => s2 a q (e.fr f), e.rt, e.bk, e.ct⟩⟩
theorem dss_one (h1 : DS X G st w1) : DSs X G [st] w1 := let ⟨_, p1, s1⟩ := h1; ⟨_, pss_one p1, s1⟩
def wDrop (wa : WE) : WS := fun P env S => wa env S fun _ S1 => P.nx env S1
theorem ds_expr (h : DE X G e wa) (hs : swapsWith e none pos.line X.env = pure false := by rfl) : DS X G (.Expr e pos) (wDrop wa) := let ⟨_, p, s⟩ := h; ⟨_, ps_expr p hs, fun at_ hw e => s at_ hw fun v H1 d S1 ok1 f1 r1 q1 => e.nx (at_.to ok1 f1) f1 q1⟩
def wRet (wa : WE) : WS := fun P env S => wa env S P.rt
theorem ds_ret (h : DE X G e wa) : DS X G (.Return (some e) pos) (wRet wa) := let ⟨_, p, s⟩ := h; ⟨_, ps_ret p, fun at_ hw e => s at_ hw e.rt⟩
def wRetN : WS := fun P _ S => P.rt .non S
theorem ds_retN : DS X G (.Return none pos) wRetN := ⟨_, ps_retN, fun at_ hw e => e.rt.here at_.ok (d := .non) rfl hw⟩
def wIfS (wt : WT) (w1 w2 : WS) : WS := fun P env S => wt env S fun k S1 => match k with
  | true => w1 P env S1
  | false => w2 P env S1
theorem ds_if {c : Expr} {a b : List Stmt} (hc : DT X G c wt) (ha : DSs X G a w1) (hb : DSs X G b w2) : DS X G (.If c a b pos) (wIfS wt w1 w2) :=
  let ⟨_, p0, s0⟩ := hc; let ⟨_, p1, s1⟩ := ha; let ⟨_, p2, s2⟩ := hb; ⟨_, ps_if p0 p1 p2, fun at_ hw e => s0 at_ hw fun k H1 S1 ok1 f1 q1 => by
    cases k with
    | true => rw [if_pos rfl]; exact s1 (at_.to ok1 f1) q1 (e.fr f1)
    | false => rw [if_neg Bool.false_ne_true]; exact s2 (at_.to ok1 f1) q1 (e.fr f1)⟩
def wPass : WS := wNext
theorem ds_pass : DS X G (.Pass pos) wPass := ⟨_, ps_pass, fun at_ hw e => e.nx at_ (Fr.refl _ _) hw⟩
def wBrk : WS := fun P env S => P.bk env S
def wCnt : WS := fun P env S => P.ct env S
theorem ds_brk : DS X G (.Break pos) wBrk := ⟨_, ps_break, fun at_ hw e => e.bk at_ (Fr.refl _ _) hw⟩
theorem ds_cnt : DS X G (.Continue pos) wCnt := ⟨_, ps_continue, fun at_ hw e => e.ct at_ (Fr.refl _ _) hw⟩
def wAsg (wa : WE) (g : WG) : WS := fun P env S => wa env S fun x S1 => g x env S1 P.nx
theorem snd_asg {K : PySem.W.Frag} {te : TE} {t : TG} {g : WG} {vs : List Nat} (h : SndE K G te wa) (hg : SndGv K G t g vs) : SndS K G (tAsg te t) (wAsg wa g) := fun at_ hw e => h at_ hw fun v H1 d S1 ok1 f1 r1 q1 => hg (at_.to ok1 f1) r1 q1 fun a f _ q => e.nx a (f1.trans f) q
theorem ds_asg {tg e : Expr} {g : WG} {vs : List Nat} (h : DE X G e wa) (hg : DGv X G tg g vs) (hs : swapsWithSole [tg] e pos.line X.env = pure false := by rfl) (hw : swappedStores [tg] e X.env = pure none := by rfl)
    (h1 : (assignEach [tg] X.env).map (·.2) = [assign tg X.env] := by rfl) : DS X G (.Assign [tg] e pos) (wAsg wa g) := let ⟨_, p, s⟩ := h; let ⟨_, pg, sg⟩ := hg; ⟨_, ps_asg p pg hs hw h1, snd_asg s sg⟩
/-- x = e -/
theorem ds_set {i : Nat} {x : Str} {e : Expr} {pos' : Pos} (hN : X.N.Nodup) (h : DE X G e wa) (hi : X.N[i]? = some x := by rfl) (hx : Loc X.env.scope x := by first | exact Or.inl rfl | exact Or.inr rfl) (hs : swapsWith e (some (.Name x pos')) pos.line X.env = pure false := by rfl)
    (hf : X.fn x = true ∨ X.env.scope.names.lookup x = some .local := by first | exact .inl rfl | exact .inr rfl | assumption) : DS X G (.Assign [.Name x pos'] e pos) (wAsg wa (gwName i)) :=
  let ⟨_, p, s⟩ := h; ⟨_, ps_set hN hi hx p hs hf, snd_asg (vs := [i]) s fun at_ r hw post => post (at_.set i r) (Fr.refl _ _) (Out.set _ i _) hw⟩
/-- a, b = x, y: two written items, plain local names -/
def wPar (i j : Nat) (wr : WA) : WS := fun P env S => wr env S fun ds S1 => match ds with
  | [d, e] => P.nx ((env.set i (some d)).set j (some e)) S1
  | _ => False
theorem ds_par {i j : Nat} {x y : Str} {a b : Expr} {px py pt : Pos} {kt k2 pt2} (hc : X.calm = true) (hN : X.N.Nodup) (ha : DA X G [a, b] wr) (hi : X.N[i]? = some x := by rfl) (hj : X.N[j]? = some y := by rfl) (hij : i ≠ j := by decide)
    (hx : X.env.scope.names.lookup x = some .local := by rfl) (hy : X.env.scope.names.lookup y = some .local := by rfl)
    (hw : swappedStores [.Tuple [.Name x px, .Name y py] kt pt] (.Tuple [a, b] k2 pt2) X.env = pure (some [x, y]) := by rfl)
    (hs : swapsWithSole [.Tuple [.Name x px, .Name y py] kt pt] (.Tuple [a, b] k2 pt2) pos.line X.env = pure false := by rfl) :
    DS X G (.Assign [.Tuple [.Name x px, .Name y py] kt pt] (.Tuple [a, b] k2 pt2) pos) (wPar i j wr) :=
  let ⟨_, p, s⟩ := ha; ⟨_, ps_par hc hN hi hj hij hx hy p hw hs, fun at_ hq e => s at_ hq fun vs H1 ds S1 ok1 f1 r1 q1 => by
    match ds, q1 with
    | [d, d'], q1 =>
      obtain ⟨v, _, rfl, r1, v', _, rfl, r2, z⟩ := r1
      cases z
      exact ⟨v, v', rfl, e.nx (((at_.to ok1 f1).set i r1).set j r2) f1 q1⟩
    | [], q1 => exact q1.elim
    | [_], q1 => exact q1.elim
    | _ :: _ :: _ :: _, q1 => exact q1.elim⟩
/-- o[i] += e, o a cell that is a list -/
theorem get_list : PGet X (rIxL X.K) := by
  intro pins s σ H x y v u Q I rx ry h
  obtain ⟨p, xs, i, z, rfl, rfl, hq, he, q⟩ := h
  cases rx
  obtain ⟨t, rfl⟩ := ry
  obtain ⟨its, r, pl, hz⟩ := I.list hq
  obtain ⟨j, h1, h2, h3, h4, h5⟩ := atI_get he
  obtain ⟨w, ew, rw'⟩ := r.get h2
  have hl := r.length
  have hn := line63
  have fin : EP X pins σ Q w s := ⟨z, H, I, rw', q⟩
  by_cases h0 : 0 ≤ i
  · have hj : i.toNat = j := by
      rw [seqIndex_of h0 h5] at h1
      exact Option.some.inj h1
    exact wpAny_getItem_list pl.isList h0 (by omega) (by rw [hj]; simpa using ew) fin
  · have hj : (i + (its.toArray.size : Int)).toNat = j := by
      rw [seqIndex_neg (by omega) h4] at h1
      rw [List.size_toArray, ← hl]
      exact Option.some.inj h1
    exact wpAny_getItem_list_neg pl.isList (by omega) (by rw [List.size_toArray] <;> omega) (by omega) (by rw [hj]; simpa using ew) fin
/-- the items that a value has (a list or tuple as data, or a cell that is a list) -/
def seqOf (S : Store) : D → Option (List D)
  | .lst xs => some xs
  | .fro xs => some xs
  | .tup xs => some xs
  | .cel a => match S a with
    | some (.lst xs) => some xs
    | _ => none
  | _ => none
def lstOf (S : Store) : D → Option (List D)
  | .lst xs => some xs
  | .fro xs => some xs
  | .cel a => match S a with
    | some (.lst xs) => some xs
    | _ => none
  | _ => none
theorem lst_of {K : PySem.W.Frag} {F : Addr → Prop} {S : Store} {H : Hp} {d : D} {v : V} {xs : List D} (ok : Ok K F S H) (r : RepD K F S H d v) (h : lstOf S d = some xs) : ∃ a vs, v = .ref a ∧ SqL K H a vs ∧ RepDs K F S H xs vs := by
  cases d <;> simp only [lstOf, reduceCtorEq] at h
  · rename_i a
    split at h
    · rename_i ys e
      cases h
      obtain ⟨_, vs, hv, rs⟩ := ok.cells a _ e
      exact ⟨a, vs, r, .inl (.inl hv), rs⟩
    · cases h
  · cases h
    obtain ⟨a, vs, e, hl, rs⟩ := r
    exact ⟨a, vs, e, hl.sq, rs⟩
  · cases h
    obtain ⟨a, vs, e, hl, rs⟩ := r
    exact ⟨a, vs, e, hl.sq, rs⟩
theorem seq_of {K : PySem.W.Frag} {F : Addr → Prop} {S : Store} {H : Hp} {d : D} {v : V} {xs : List D} (ok : Ok K F S H) (r : RepD K F S H d v) (h : seqOf S d = some xs) : ∃ a vs, v = .ref a ∧ (SqL K H a vs ∨ SqT K H a vs) ∧ RepDs K F S H xs vs := by
  cases d <;> simp only [seqOf, reduceCtorEq] at h
  · rename_i a
    split at h
    · rename_i ys e
      cases h
      obtain ⟨_, vs, hv, rs⟩ := ok.cells a _ e
      exact ⟨a, vs, r, .inl (.inl (.inl hv)), rs⟩
    · cases h
  · cases h
    obtain ⟨a, vs, e, hl, rs⟩ := r
    exact ⟨a, vs, e, .inl hl.sq, rs⟩
  · cases h
    obtain ⟨a, vs, e, hl, rs⟩ := r
    exact ⟨a, vs, e, .inr hl.sq, rs⟩
  · cases h
    obtain ⟨a, vs, e, hl, rs⟩ := r
    exact ⟨a, vs, e, .inl hl.sq, rs⟩
/-- d[i] -/
def atD (xs : List D) (i : Int) : Option D := match ixN xs.length i with
  | some j => xs[j]?
  | none => none
def fIxL (x y : D) (S : Store) (Q : PQ) : Prop := match lstOf S x, y with
  | some xs, .int i => match atD xs i with
    | some d => Q d S
    | none => False
  | _, _ => False
theorem at_rep {K : PySem.W.Frag} {F : Addr → Prop} {S : Store} {H : Hp} {xs : List D} {vs : List V} {i : Int} {d : D} (rs : RepDs K F S H xs vs) (h : atD xs i = some d) : ∃ v, atI vs i = some v ∧ RepD K F S H d v := by
  unfold atD at h
  split at h
  · rename_i j e
    obtain ⟨v, h1, h2⟩ := rs.get h
    refine ⟨v, ?_, h2⟩
    unfold atI
    rw [rs.length] at e
    rw [e]
    exact h1
  · cases h
theorem sr_ixL {K : PySem.W.Frag} : SndR K (rIxL K) fIxL := fun {F S H x y a b Q Q'} ok r1 r2 hf post => by
  unfold fIxL at hf
  split at hf
  · rename_i xs i e
    split at hf
    · rename_i d ed
      obtain ⟨p, vs, rfl, hs, rs⟩ := lst_of ok r1 e
      obtain ⟨v, h1, h2⟩ := at_rep rs ed
      exact ⟨p, vs, i, v, rfl, r2, hs, h1, post.here ok h2 hf⟩
    · exact hf.elim
  · exact hf.elim
theorem de_ixL (ha : DE X G a wa) (hb : DE X G b wb) (hs : PlainIx b := by exact fun _ _ => rfl) : DE X G (.Subscript a b pos) (wOp fIxL wa wb) := de_ix ix_list sr_ixL ha hb hs
def fIxT (x y : D) (S : Store) (Q : PQ) : Prop := match x, y with
  | .tup xs, .int i => match atD xs i with
    | some d => Q d S
    | none => False
  | _, _ => False
theorem sr_ixT {K : PySem.W.Frag} : SndR K (rIxT K) fIxT := fun {F S H x y a b Q Q'} ok r1 r2 hf post => by
  unfold fIxT at hf
  split at hf
  · rename_i xs i
    split at hf
    · rename_i d ed
      obtain ⟨p, vs, rfl, hs, rs⟩ := r1
      obtain ⟨v, h1, h2⟩ := at_rep rs ed
      exact ⟨p, vs, i, v, rfl, r2, hs.sq, h1, post.here ok h2 hf⟩
    · exact hf.elim
  · exact hf.elim
theorem de_ixT (ha : DE X G a wa) (hb : DE X G b wb) (hs : PlainIx b := by exact fun _ _ => rfl) : DE X G (.Subscript a b pos) (wOp fIxT wa wb) := de_ix ix_tup sr_ixT ha hb hs
def wAugS (wo wi wa : WE) (f : D → D → Store → PQ → Prop) : WS := fun P env S => wo env S fun o S1 => wi env S1 fun i S2 => fIxL o i S2 fun x S3 => wa env S3 fun y S4 => f x y S4 fun z S5 => fSetL o i z S5 fun S6 => P.nx env S6
theorem ds_augS {o i : Expr} {wo wi : WE} {op : Operator} {tip : TIp} {f : D → D → Store → PQ → Prop} {tpos : Pos} (ho : DE X G o wo) (hi : DE X G i wi) (he : DE X G e wa) (hp : PIp X op tip) (hf : SndR X.K tip f)
    (ha : ∀ ov iv new, augStore i ov iv new = (do holding [new, ov, iv] (setItem ov iv new); release [new, ov, iv] []; pure .next) := by intros; rfl) : DS X G (.AugAssign (.Subscript o i tpos) op e pos) (wAugS wo wi wa f) :=
  let ⟨_, p1, s1⟩ := ho; let ⟨_, p2, s2⟩ := hi; let ⟨_, p3, s3⟩ := he; ⟨_, ps_augS p1 p2 get_list p3 hp set_list ha, fun {F S H env σ P D'} at_ hw en =>
    s1 at_ hw fun x H1 dx S1 ok1 f1 r1 q1 => s2 (at_.to ok1 f1) q1 fun y H2 dy S2 ok2 f2 r2 q2 => sr_ixL ok2 (RepD.mv f2.mv _ _ r1) r2 q2 fun u H3 du S3 ok3 f3 r3 q3 =>
      s3 (at_.to ok3 ((f1.trans f2).trans f3)) q3 fun t H4 dt S4 ok4 f4 r4 q4 => hf ok4 (RepD.mv f4.mv _ _ r3) r4 q4 fun z H5 dz S5 ok5 f5 r5 q5 =>
        snd_setL ok5 (RepD.mv (((f2.trans f3).trans f4).trans f5).mv _ _ r1) (RepD.mv ((f3.trans f4).trans f5).mv _ _ r2) r5 q5 fun S6 H6 ok6 f6 q6 =>
          en.nx (at_.to ok6 (((((f1.trans f2).trans f3).trans f4).trans f5).trans f6)) (((((f1.trans f2).trans f3).trans f4).trans f5).trans f6) q6⟩
theorem sr_ipAdd {K : PySem.W.Frag} : SndR K (ipI fun i j => i + j) (fI0 fun i j => .int (i + j)) := fun ok r1 r2 hf post => by
  obtain ⟨i, j, rfl, rfl, q⟩ := fI0_is hf
  exact ⟨i, j, r1, r2, post.here ok (d := .int (i + j)) rfl q⟩
def wAug (i : Nat) (wa : WE) (f : D → D → Store → PQ → Prop) : WS := fun P env S => match env[i]? with
  | some (some x) => wa env S fun y S1 => f x y S1 fun z S2 => P.nx (env.set i (some z)) S2
  | _ => False
theorem ds_aug {i : Nat} {x : Str} {op : Operator} {tip : TIp} {f : D → D → Store → PQ → Prop} {pos' : Pos} (hN : X.N.Nodup) (he : DE X G e wa) (ho : PIp X op tip) (hf : SndR X.K tip f) (hi : X.N[i]? = some x := by rfl) (hx : Loc X.env.scope x := by first | exact Or.inl rfl | exact Or.inr rfl) (hfn : X.fn x = true ∨ X.env.scope.names.lookup x = some .local := by first | exact .inl rfl | exact .inr rfl | assumption) :
    DS X G (.AugAssign (.Name x pos') op e pos) (wAug i wa f) := let ⟨_, p, s⟩ := he; ⟨_, ps_aug hN hi hx p ho hfn, fun {F S H env σ P D'} at_ hw en => by
  unfold wAug at hw
  split at hw
  · rename_i d ed
    obtain ⟨v, h1, h2⟩ := at_.en.at_ i d ed
    exact ⟨v, h1, s at_ hw fun y H1 dy S1 ok1 f1 r1 q1 => hf ok1 (RepD.mv f1.mv _ _ h2) r1 q1 fun z H2 dz S2 ok2 f2 r2 q2 => en.nx ((at_.to ok2 (f1.trans f2)).set i r2) (f1.trans f2) q2⟩
  · exact hw.elim⟩

/-! ### while -/
def wWhile (wt : WT) (w : WS) : WS := fun P env S => ∃ I : Nat → En → Store → Prop, (∃ m, I m env S) ∧ ∀ m env S, I m env S → wt env S fun k S1 => match k with
  | true => w { P with nx := fun env' S' => ∃ m', m' < m ∧ I m' env' S', ct := fun env' S' => ∃ m', m' < m ∧ I m' env' S', bk := P.nx } env S1
  | false => P.nx env S1
theorem ds_while {c : Expr} {body : List Stmt} (hp : PassesOwn (model X.prog X.w) X.A X.env X.xe) (hc : DT X G c wt) (hb : DSs X G body w1) : DS X G (.While c body [] pos) (wWhile wt w1) :=
  let ⟨_, p0, s0⟩ := hc; let ⟨_, p1, s1⟩ := hb; ⟨_, ps_while hp p0 p1, fun {F S H env σ P D'} at_ hw en => by
    obtain ⟨I, ⟨m, hm⟩, turn⟩ := hw
    refine ⟨fun m σ' H' => ∃ env' S', At X.K G F S' H' env' σ' ∧ Fr S H S' H' ∧ I m env' S', ⟨m, env, S, at_, Fr.refl _ _, hm⟩, ?_⟩
    rintro m σ1 H1 ⟨env1, S1, at1, f1, hI⟩
    refine s0 at1 (turn m env1 S1 hI) fun k H2 S2 ok2 f2 q2 => ?_
    cases k with
    | true =>
      rw [if_pos rfl]
      refine ⟨fun σ' H' => ∃ m' env' S', m' < m ∧ At X.K G F S' H' env' σ' ∧ Fr S H S' H' ∧ I m' env' S', fun σ' H' ⟨m', env', S', lt, a, f, i⟩ => ⟨m', lt, env', S', a, f, i⟩, ?_⟩
      refine s1 (at1.to ok2 f2) q2 ⟨fun {env' S' σ' H'} a f q => ?_, en.rt.fr (f1.trans f2), fun {env' S' σ' H'} a f q => en.nx a ((f1.trans f2).trans f) q, fun {env' S' σ' H'} a f q => ?_⟩
      · obtain ⟨m', lt, i⟩ := q; exact ⟨m', env', S', lt, a, (f1.trans f2).trans f, i⟩
      · obtain ⟨m', lt, i⟩ := q; exact ⟨m', env', S', lt, a, (f1.trans f2).trans f, i⟩
    | false =>
      rw [if_neg Bool.false_ne_true]
      exact en.nx (at1.to ok2 f2) (f1.trans f2) q2⟩

/-! ### what is walked -/
structure Walks (K : PySem.W.Frag) (F : Addr → Prop) (S0 : Store) (H0 : Hp) (J : It) (xs : List D) : Prop where
  go : ∀ i x S H, xs[i]? = some x → Ok K F S H → Fr S0 H0 S H → J.go i H ∧ ∀ v H', J.yld i H v H' → Ok K F S H' ∧ Fr S H S H' ∧ RepD K F S H' x v
  stop : ∀ i S H, xs[i]? = none → Ok K F S H → Fr S0 H0 S H → J.stop i H
def SndI (K : PySem.W.Frag) (G : Gd) (t : TI) (w : WI) : Prop := ∀ {F : Addr → Prop} {S : Store} {H : Hp} {env : En} {σ : L2.St} {Q : List D → Store → Prop} {R : It → Hp → Prop}, At K G F S H env σ → w env S Q →
  (∀ J H' xs S', Ok K F S' H' → Fr S H S' H' → (∀ F' S2 H2, Mv F S' H' F' S2 H2 → Walks K F' S2 H2 J xs) → Q xs S' → R J H') → t σ H R
def DI (X : Cx) (G : Gd) (tg e : Expr) (w : WI) : Prop := ∃ t, PI X tg e t ∧ SndI X.K G t w

theorem walks_list {K : PySem.W.Frag} {F : Addr → Prop} {S : Store} {H : Hp} {a : Addr} {vs : List V} {xs : List D} (hl : LAt F S H a vs) (rs : RepDs K F S H xs vs) : Walks K F S H (Itl K a) xs := by
  refine ⟨fun i x S1 H1 e ok f => ?_, fun i S1 H1 e ok f => ?_⟩
  · obtain ⟨v, h1, h2⟩ := rs.get e
    have hl1 : SqL K H1 a vs := (hl.mv (f.mv (F := F))).sq
    refine ⟨⟨vs, v, hl1, h1⟩, fun u H2 ⟨e2, h3⟩ => ?_⟩
    subst e2
    have e3 := h3 vs hl1
    rw [h1] at e3
    cases e3
    exact ⟨ok, Fr.refl _ _, RepD.mv f.mv _ _ h2⟩
  · refine ⟨vs, (hl.mv (f.mv (F := F))).sq, ?_⟩
    rw [← rs.length]
    exact List.getElem?_eq_none_iff.mp e
theorem walks_tup {K : PySem.W.Frag} {F : Addr → Prop} {S : Store} {H : Hp} {a : Addr} {vs : List V} {xs : List D} (hl : TAt K F S H a vs) (rs : RepDs K F S H xs vs) : Walks K F S H (Itt K a) xs := by
  refine ⟨fun i x S1 H1 e ok f => ?_, fun i S1 H1 e ok f => ?_⟩
  · obtain ⟨v, h1, h2⟩ := rs.get e
    have hl1 := (hl.mv (f.mv (F := F))).sq
    refine ⟨⟨vs, v, hl1, h1⟩, fun u H2 ⟨e2, h3⟩ => ?_⟩
    subst e2
    have e3 := h3 vs hl1
    rw [h1] at e3
    cases e3
    exact ⟨ok, Fr.refl _ _, RepD.mv f.mv _ _ h2⟩
  · refine ⟨vs, (hl.mv (f.mv (F := F))).sq, ?_⟩
    rw [← rs.length]
    exact List.getElem?_eq_none_iff.mp e
/-- for x in a list that is data -/
def wiL (wa : WE) : WI := fun env S Q => wa env S fun d S1 => match d with
  | .lst xs => Q xs S1
  | _ => False
def wiT (wa : WE) : WI := fun env S Q => wa env S fun d S1 => match d with
  | .tup xs => Q xs S1
  | _ => False
theorem di_list {tg : Expr} (h : DE X G e wa) : DI X G tg e (wiL wa) := let ⟨_, p, s⟩ := h; ⟨_, pi_list p, fun {F S H env σ Q R} at_ hw k => s at_ hw fun v H1 d S1 ok1 f1 r1 q1 => by
  cases d <;> first | exact q1.elim | skip
  obtain ⟨a, vs, rfl, hl, rs⟩ := r1
  exact ⟨a, rfl, ⟨vs, hl.sq⟩, k _ H1 _ S1 ok1 f1 (fun F' S2 H2 m => walks_list (hl.mv m) (RepDs.mv m _ _ rs)) q1⟩⟩
theorem di_tup {tg : Expr} (h : DE X G e wa) : DI X G tg e (wiT wa) := let ⟨_, p, s⟩ := h; ⟨_, pi_tup p, fun {F S H env σ Q R} at_ hw k => s at_ hw fun v H1 d S1 ok1 f1 r1 q1 => by
  cases d <;> first | exact q1.elim | skip
  obtain ⟨a, vs, rfl, hl, rs⟩ := r1
  exact ⟨a, rfl, ⟨vs, hl.sq⟩, k _ H1 _ S1 ok1 f1 (fun F' S2 H2 m => walks_tup (hl.mv m) (RepDs.mv m _ _ rs)) q1⟩⟩
/-- the ints of a range -/
def rangeD (lo : Int) (n : Nat) : List D := (List.range n).map fun k => D.int (lo + (k : Nat))
theorem walks_range {K : PySem.W.Frag} {F : Addr → Prop} {S : Store} {H : Hp} (lo : Int) (n : Nat) : Walks K F S H (Itr lo n) (rangeD lo n) := by
  refine ⟨fun i x S1 H1 e ok f => ?_, fun i S1 H1 e ok f => ?_⟩
  · unfold rangeD at e
    rw [List.getElem?_map] at e
    have hi : i < n := by
      rcases Nat.lt_or_ge i n with h | h
      · exact h
      · rw [List.getElem?_eq_none (by simpa using h)] at e; cases e
    rw [List.getElem?_range hi] at e
    cases e
    refine ⟨hi, fun v H2 ⟨e2, e3⟩ => ?_⟩
    subst e2
    exact ⟨ok, Fr.refl _ _, e3⟩
  · unfold rangeD at e
    have h := List.getElem?_eq_none_iff.mp e
    show n ≤ i
    simpa using h
def wiR1 (wa : WE) : WI := fun env S Q => wa env S fun d S1 => match d with
  | .int j => (-(2 ^ 62) ≤ j ∧ j < 2 ^ 62) ∧ Q (rangeD 0 j.toNat) S1
  | _ => False
theorem di_range1 {tg : Expr} {p : Pos} (hm : X.mg "range" = none) (h : DE X G e wa) (hg : Gl X "range" := by rfl) (hs : starEach [e] X.env = [(false, eval e X.env)] := by rfl) : DI X G tg (.Call (.Name "range" p) [e] [] pos) (wiR1 wa) := by
  obtain ⟨t, p, s⟩ := h
  refine ⟨_, pi_range1 hg hm (pa_cons p pa_nil (by rw [hs]; rfl)) hs, fun {F S H env σ Q R} at_ hw k => ?_⟩
  refine s at_ hw fun v H1 d S1 ok1 f1 r1 q1 => ?_
  cases d <;> first | exact q1.elim | skip
  rename_i j
  cases r1
  exact ⟨j, rfl, q1.1.1, q1.1.2, k _ H1 _ S1 ok1 f1 (fun F' S2 H2 m => walks_range 0 _) q1.2⟩
def wiR2 (wa wb : WE) : WI := fun env S Q => wa env S fun d S1 => wb env S1 fun d2 S2 => match d, d2 with
  | .int i, .int j => (-(2 ^ 62) ≤ i ∧ i < 2 ^ 62 ∧ -(2 ^ 62) ≤ j ∧ j < 2 ^ 62) ∧ Q (rangeD i (j - i).toNat) S2
  | _, _ => False
theorem di_range2 {tg : Expr} {p : Pos} (hm : X.mg "range" = none) (h : DE X G a wa) (h' : DE X G b wb) (hg : Gl X "range" := by rfl) (hs : starEach [a, b] X.env = [(false, eval a X.env), (false, eval b X.env)] := by rfl) (hs2 : starEach [b] X.env = [(false, eval b X.env)] := by rfl) : DI X G tg (.Call (.Name "range" p) [a, b] [] pos) (wiR2 wa wb) := by
  obtain ⟨t, p, s⟩ := h
  obtain ⟨t', p', s'⟩ := h'
  refine ⟨_, pi_range2 hg hm (pa_cons p (pa_cons p' pa_nil (by rw [hs2]; rfl)) (by rw [hs, hs2])) hs hs2, fun {F S H env σ Q R} at_ hw k => ?_⟩
  refine s at_ hw fun v H1 d S1 ok1 f1 r1 q1 => s' (at_.to ok1 f1) q1 fun u H2 d2 S2 ok2 f2 r2 q2 => ?_
  cases d <;> first | exact q2.elim | skip
  cases d2 <;> first | exact q2.elim | skip
  rename_i i j
  cases r1
  cases r2
  exact ⟨i, j, rfl, q2.1, k _ H2 _ S2 ok2 (f1.trans f2) (fun F' S2 H2 m => walks_range i _) q2.2⟩
/-- the signs of a text -/
def signsD (x : Str) : List D := x.cps.toList.map fun c => D.str ⟨#[c]⟩
theorem walks_str {K : PySem.W.Frag} {F : Addr → Prop} {S : Store} {H : Hp} (x : Str) : Walks K F S H (Its x) (signsD x) := by
  refine ⟨fun i d S1 H1 e ok f => ?_, fun i S1 H1 e ok f => ?_⟩
  · unfold signsD at e
    rw [List.getElem?_map] at e
    have e0 : x.cps[i]? = x.cps.toList[i]? := by simp
    cases q : x.cps.toList[i]? with
    | none => rw [q] at e; cases e
    | some c =>
      rw [q] at e
      cases e
      rw [q] at e0
      refine ⟨?_, fun v H2 ⟨e2, c', h3, h4⟩ => ?_⟩
      · show i < x.cps.size
        rcases Nat.lt_or_ge i x.cps.size with h | h
        · exact h
        · rw [Array.getElem?_eq_none h] at e0; cases e0
      · subst e2
        rw [e0] at h3
        cases h3
        exact ⟨ok, Fr.refl _ _, h4⟩
  · unfold signsD at e
    have h := List.getElem?_eq_none_iff.mp e
    show x.cps.size ≤ i
    simpa using h
def wiS (wa : WE) : WI := fun env S Q => wa env S fun d S1 => match d with
  | .str x => Q (signsD x) S1
  | _ => False
theorem di_str {tg : Expr} (h : DE X G e wa) : DI X G tg e (wiS wa) := let ⟨_, p, s⟩ := h; ⟨_, pi_str p, fun {F S H env σ Q R} at_ hw k => s at_ hw fun v H1 d S1 ok1 f1 r1 q1 => by
  cases d <;> first | exact q1.elim | skip
  exact ⟨_, r1, k _ H1 _ S1 ok1 f1 (fun F' S2 H2 m => walks_str _) q1⟩⟩

/-! ### for -/
def ForGo (g : WG) (w : WS) (P : PEnds) (env : En) (xs : List D) (S1 : Store) : Prop := ∃ I : Nat → En → Store → Prop, I 0 env S1 ∧ ∀ i env S, I i env S → match xs[i]? with
  | some x => g x env S fun env2 S2 => w { P with nx := I (i + 1), ct := I (i + 1), bk := P.nx } env2 S2
  | none => P.nx env S
def wFor (wi : WI) (g : WG) (w : WS) : WS := fun P env S => wi env S fun xs S1 => ForGo g w P env xs S1
theorem ds_for {tg iter : Expr} {body : List Stmt} {wi : WI} {g : WG} {vs : List Nat} (hp : PassesOwn (model X.prog X.w) X.A X.env X.xe) (hc : X.calm = true) (hi : DI X G tg iter wi) (hg : DGv X G tg g vs) (hb : DSs X G body w1)
    (hs : ∀ x, foldedSetIterable iter X.env x = pure x := by intro _; rfl) : DS X G (.For tg iter body [] pos) (wFor wi g w1) := by
  obtain ⟨ti, pi, si⟩ := hi
  obtain ⟨tg', pg, sg⟩ := hg
  obtain ⟨tb, pb, sb⟩ := hb
  refine ⟨_, ps_for hp hc pi pg pb hs, fun {F S H env σ P D'} at_ hw en => ?_⟩
  refine si at_ hw fun J H1 xs S1 ok1 f1 wk ⟨I, h0, turn⟩ => ?_
  have wk := wk F S1 H1 (Fr.refl _ _).mv
  refine ⟨fun i m σ' H' => ∃ env' S', At X.K G F S' H' env' σ' ∧ Fr S1 H1 S' H' ∧ I i env' S' ∧ i + m = xs.length + 1, ⟨xs.length + 1, env, S1, at_.to ok1 f1, Fr.refl _ _, h0, by omega⟩, ?_⟩
  rintro i m σ2 H2 ⟨env2, S2, at2, f2, hI, hm⟩
  have t2 := turn i env2 S2 hI
  cases e : xs[i]? with
  | none =>
    rw [e] at t2
    exact .inl ⟨wk.stop i S2 H2 e at2.ok f2, en.nx at2 (f1.trans f2) t2⟩
  | some x =>
    rw [e] at t2
    have hi : i < xs.length := (List.getElem?_eq_some_iff.mp e).1
    obtain ⟨g1, g2⟩ := wk.go i x S2 H2 e at2.ok f2
    refine .inr ⟨g1, fun σ' H' => ∃ env' S', At X.K G F S' H' env' σ' ∧ Fr S1 H1 S' H' ∧ I (i + 1) env' S', fun σ' H' ⟨env', S', a, f, q⟩ => ⟨m - 1, by omega, env', S', a, f, q, by omega⟩, fun v H3 y => ?_⟩
    obtain ⟨ok3, f3, r3⟩ := g2 v H3 y
    refine sg (at2.to ok3 f3) r3 t2 fun {env4 S4 σ4 H4} a4 f4 _ q4 => ?_
    have f14 := (f2.trans f3).trans f4
    exact sb a4 q4 ⟨fun a f q => ⟨_, _, a, f14.trans f, q⟩, en.rt.fr (f1.trans f14), fun a f q => en.nx a ((f1.trans f14).trans f) q, fun a f q => ⟨_, _, a, f14.trans f, q⟩⟩
end
end Pz

set_option Elab.async false
set_option linter.all false
set_option maxRecDepth 100000
set_option maxHeartbeats 4000000
namespace Pz
open PySem PySem.Spec PyProof.Rows L2

section
variable {X : Cx} {G : Gd} {a b c e : Expr} {es : List Expr} {wa wb wc : WE} {pos : Pos} {wt wu : WT} {wr : WA}
/-! ### list comprehensions, one clause -/
def LcGo (g : WG) (wt : WT) (we : WE) (vs : List Nat) (env : En) (Q : PQ) (xs : List D) (S1 : Store) : Prop := ∃ I : Nat → List D → Store → Prop, I 0 [] S1 ∧ ∀ i acc S, I i acc S → match xs[i]? with
  | some x => g x (wipeD env vs) S fun env2 S2 => wt env2 S2 fun k S3 => match k with
    | true => we env2 S3 fun y S4 => acc.length < sizeLine ∧ I (i + 1) (acc ++ [y]) S4
    | false => I (i + 1) acc S3
  | none => Q (.lst acc) S
def wLc (wi : WI) (g : WG) (wt : WT) (we : WE) (vs : List Nat) : WE := fun env S Q => wi env S fun xs S1 => LcGo g wt we vs env Q xs S1
def wYes : WT := fun _ S Q => Q true S
theorem out_wipe (σ : L2.St) (vs : List Nat) : Out vs σ (wipe σ vs) := ⟨wipe_length σ vs, fun j h => by rw [wipe_get, if_neg (fun z => h z.1)]⟩
def DTs (X : Cx) (G : Gd) (ifs : List Expr) (w : WT) : Prop := ∃ t, PTs X ifs t ∧ SndT X.K G t w
theorem DTs.pt {ifs : List Expr} (h : DTs X G ifs wt) : PTs X ifs (tOfT X.K G wt) := let ⟨_, p, s⟩ := h; ⟨fun pins s0 σ H Q I hw => let ⟨F, S, env, Qp, at_, q, post⟩ := hw; p.run pins s0 σ H Q I (s at_ q post)⟩
theorem dts_nil : DTs X G [] wYes := ⟨_, pts_nil, fun at_ hw post => post true _ _ at_.ok (Fr.refl _ _) hw⟩
theorem dts_one (h : DT X G c wt) : DTs X G [c] wt := let ⟨_, p, s⟩ := h; ⟨_, pts_one p, s⟩
theorem snd_lc {K : PySem.W.Frag} {ti : TI} {wi : WI} {g : WG} {we : WE} {vs : List Nat} (si : SndI K G ti wi) : SndE K G (tLc ti (tOfG K G g vs) (tOfT K G wt) (tOfE K G we) vs) (wLc wi g wt we vs) := by
  intro F S H env σ Q Q' at_ hw post
  refine si at_ hw fun J H1 xs S1 ok1 f1 wk ⟨I, h0, turn⟩ => ?_
  intro D hD
  obtain ⟨sD, nF⟩ := ok1.free hD
  have mF : ∀ S2 H2, Mv F S1 H1 (fun a => F a ∨ a = D) S2 H2 → True := fun _ _ _ => trivial
  have mv0 : Mv F S1 H1 (fun a => F a ∨ a = D) S1 H1 := fun a o e1 e2 e3 => ⟨e1, e2, fun z => z.elim e3 (ne_of_none e1 hD)⟩
  have wk := wk (fun a => F a ∨ a = D) S1 H1 mv0
  have mv1 : Mv F S1 H1 (fun a => F a ∨ a = D) S1 (upd H1 D (.lst [])) := fun a o e1 e2 e3 => ⟨by rw [upd_ne (ne_of_none e1 hD)]; exact e1, e2, fun z => z.elim e3 (ne_of_none e1 hD)⟩
  have okD : Ok K (fun a => F a ∨ a = D) S1 (upd H1 D (.lst [])) := by
    refine ⟨fun a c e => ?_, fun a ha => ?_⟩
    · obtain ⟨n1, r1⟩ := ok1.cells a c e
      obtain ⟨o, eo⟩ := r1.at
      exact ⟨fun z => z.elim n1 (ne_of_none eo hD), r1.mv mv1 fun u q => by rw [upd_ne (ne_of_none eo hD)]; exact q⟩
    · rcases ha with ha | rfl
      · obtain ⟨⟨o, eo⟩, e⟩ := ok1.hid a ha
        exact ⟨⟨o, by rw [upd_ne (ne_of_none eo hD)]; exact eo⟩, e⟩
      · exact ⟨⟨_, upd_same⟩, sD⟩
  have frD : Fr S1 H1 S1 (upd H1 D (.lst [])) := Fr.new ok1 hD
  have at1 := at_.to ok1 f1
  refine ⟨fun i m H2 => ∃ S2 acc us, Ok K (fun a => F a ∨ a = D) S2 H2 ∧ Fr S1 H1 S2 H2 ∧ H2 D = some (.lst us) ∧ RepDs K (fun a => F a ∨ a = D) S2 H2 acc us ∧ RelE K (fun a => F a ∨ a = D) S2 H2 (wipeD env vs) (wipe σ vs) ∧ I i acc S2 ∧ i + m = xs.length + 1,
    ⟨xs.length + 1, S1, [], [], okD, frD, upd_same, rfl, (at1.en.wipe vs).mv mv1, h0, by omega⟩, ?_⟩
  rintro i m H2 ⟨S2, acc, us, ok2, f2, eD, rs, en2, hI, hm⟩
  have t2 := turn i acc S2 hI
  cases e : xs[i]? with
  | none =>
    rw [e] at t2
    refine .inl ⟨wk.stop i S2 H2 e ok2 f2, ?_⟩
    have mvB : Mv (fun a => F a ∨ a = D) S2 H2 F S2 H2 := fun a o e1 e2 e3 => ⟨e1, e2, fun z => e3 (.inl z)⟩
    refine post (.ref D) H2 (.lst acc) S2 ?_ (f1.trans f2) ?_ t2
    · refine ⟨fun a c ec => ?_, fun a ha => ?_⟩
      · obtain ⟨n1, r1⟩ := ok2.cells a c ec
        exact ⟨fun z => n1 (.inl z), r1.mv mvB fun _ q => q⟩
      · exact ok2.hid a (.inl ha)
    · exact ⟨D, us, rfl, ⟨(ok2.hid D (.inr rfl)).2, nF, eD⟩, RepDs.mv mvB _ _ rs⟩
  | some x =>
    rw [e] at t2
    have hi : i < xs.length := (List.getElem?_eq_some_iff.mp e).1
    obtain ⟨g1, g2⟩ := wk.go i x S2 H2 e ok2 f2
    refine .inr ⟨g1, fun H3 => ∃ S3 acc us, Ok K (fun a => F a ∨ a = D) S3 H3 ∧ Fr S1 H1 S3 H3 ∧ H3 D = some (.lst us) ∧ RepDs K (fun a => F a ∨ a = D) S3 H3 acc us ∧ RelE K (fun a => F a ∨ a = D) S3 H3 (wipeD env vs) (wipe σ vs) ∧ I (i + 1) acc S3,
      fun H3 ⟨S3, acc, us, h1, h2, h3, h4, h5, h6⟩ => ⟨m - 1, by omega, S3, acc, us, h1, h2, h3, h4, h5, h6, by omega⟩, fun v H3 y => ?_⟩
    obtain ⟨ok3, f3, r3⟩ := g2 v H3 y
    have at3 : At K G (fun a => F a ∨ a = D) S2 H3 (wipeD env vs) (wipe σ vs) := ⟨ok3, en2.fr f3, G.cl at1.g (f2.trans f3)⟩
    refine ⟨_, S2, _, x, _, at3, r3, t2, fun {env4 S4 σ4 H4} a4 f4 o4 q4 => ?_⟩
    refine ⟨by rw [o4.wipe]; exact (out_wipe σ vs).wipe, ?_⟩
    refine ⟨_, S4, env4, _, a4, q4, fun k H5 S5 ok5 f5 q5 => ?_⟩
    have f35 := (f3.trans f4).trans f5
    cases k with
    | false =>
      refine iteF ?_
      exact ⟨S5, acc, us, ok5, f2.trans f35, (f35 D _ eD (ok2.hid D (.inr rfl)).2).1, RepDs.mv f35.mv _ _ rs, en2.fr f35, q5⟩
    | true =>
      refine iteT ?_
      refine ⟨_, S5, env4, _, a4.to ok5 f5, q5, fun u H6 d6 S6 ok6 f6 r6 q6 => ?_⟩
      have f36 := f35.trans f6
      have eD6 := (f36 D _ eD (ok2.hid D (.inr rfl)).2).1
      have sD6 := (ok6.hid D (.inr rfl)).2
      have mvU : ∀ o, Mv (fun a => F a ∨ a = D) S6 H6 (fun a => F a ∨ a = D) S6 (upd H6 D o) := fun o a o' e1 e2 e3 => ⟨by rw [upd_ne (fun z => e3 (.inr z))]; exact e1, e2, e3⟩
      refine ⟨us, eD6, by rw [← rs.length]; exact q6.1, S6, acc ++ [d6], us ++ [u], ?_, ?_, upd_same, ?_, (en2.fr f36).mv (mvU _), q6.2⟩
      · refine ⟨fun a c ec => ?_, fun a ha => ?_⟩
        · obtain ⟨n1, r1⟩ := ok6.cells a c ec
          exact ⟨n1, r1.mv (mvU _) fun _ q => by rw [upd_ne (fun z => n1 (.inr z))]; exact q⟩
        · obtain ⟨⟨o, eo⟩, es⟩ := ok6.hid a ha
          by_cases hz : a = D
          · subst hz; exact ⟨⟨_, upd_same⟩, es⟩
          · exact ⟨⟨o, by rw [upd_ne hz]; exact eo⟩, es⟩
      · intro a o e1 e2
        obtain ⟨x1, x2⟩ := (f2.trans f36) a o e1 e2
        exact ⟨by rw [upd_ne (ne_of_none e1 hD)]; exact x1, x2⟩
      · exact RepDs.append (RepDs.mv (mvU _) _ _ (RepDs.mv f36.mv _ _ rs)) (RepDs.one (RepD.mv (mvU _) _ _ r6))
theorem de_lc {elt tg iter : Expr} {ifs : List Expr} {scope : Scope} {own : List (Str × Nat)} {wi : WI} {g : WG} {we : WE} (hc : X.calm = true) (hN : X.N.Nodup) (hi : DI X G tg iter wi) (ok : BlkOk X.N X.env.scope scope own)
    (hg : ∀ (s : Shared) (H : Hp) (C : Addr) (cl : List (Str × Addr)) (fp : List Addr), DGv (X.blk s H scope (compEnvC scope cl C X.env) fp) G tg g (own.map (·.2)))
    (ht : ∀ (s : Shared) (H : Hp) (C : Addr) (cl : List (Str × Addr)) (fp : List Addr), DTs (X.blk s H scope (compEnvC scope cl C X.env) fp) G ifs wt)
    (he : ∀ (s : Shared) (H : Hp) (C : Addr) (cl : List (Str × Addr)) (fp : List Addr), DE (X.blk s H scope (compEnvC scope cl C X.env) fp) G elt we) (hs : ∀ x, foldedSetIterable iter X.env x = pure x := by intro _; rfl) :
    DE X G (.ListComp elt [⟨tg, iter, ifs, 0⟩] scope pos) (wLc wi g wt we (own.map (·.2))) :=
  let ⟨_, pi, si⟩ := hi; ⟨_, pe_lc hc hN pi ok (fun s H C cl fp => (hg s H C cl fp).pg) (fun s H C cl fp => (ht s H C cl fp).pt) (fun s H C cl fp => (he s H C cl fp).pe) hs, snd_lc si⟩
/-- x = [..] on one line, x a local -/
theorem ds_setLc {i : Nat} {y : Str} {py : Pos} {elt tg iter : Expr} {ifs : List Expr} {scope : Scope} {own : List (Str × Nat)} {spos : Pos} {wi : WI} {g : WG} {we : WE} (hc : X.calm = true) (hN : X.N.Nodup) (hi : DI X G tg iter wi) (ok : BlkOk X.N X.env.scope scope own)
    (hg : ∀ (s : Shared) (H : Hp) (C : Addr) (cl : List (Str × Addr)) (fp : List Addr), DGv (X.blk s H scope (compEnvC scope cl C X.env) fp) G tg g (own.map (·.2)))
    (ht : ∀ (s : Shared) (H : Hp) (C : Addr) (cl : List (Str × Addr)) (fp : List Addr), DTs (X.blk s H scope (compEnvC scope cl C X.env) fp) G ifs wt)
    (he : ∀ (s : Shared) (H : Hp) (C : Addr) (cl : List (Str × Addr)) (fp : List Addr), DE (X.blk s H scope (compEnvC scope cl C X.env) fp) G elt we)
    (hsw : swapsWith (.ListComp elt [⟨tg, iter, ifs, 0⟩] scope pos) (some (.Name y py)) spos.line X.env = pure true) (hy : X.N[i]? = some y := by rfl) (hyl : X.env.scope.names.lookup y = some .local := by rfl) (hs : ∀ x, foldedSetIterable iter X.env x = pure x := by intro _; rfl) :
    DS X G (.Assign [.Name y py] (.ListComp elt [⟨tg, iter, ifs, 0⟩] scope pos) spos) (wAsg (wLc wi g wt we (own.map (·.2))) (gwName i)) :=
  let ⟨_, pi, si⟩ := hi; ⟨_, ps_setLc hc hN hy hyl hsw pi ok (fun s H C cl fp => (hg s H C cl fp).pg) (fun s H C cl fp => (ht s H C cl fp).pt) (fun s H C cl fp => (he s H C cl fp).pe) hs,
    snd_asg (vs := [i]) (snd_lc si) fun at_ r hw post => post (at_.set i r) (Fr.refl _ _) (Out.set _ i _) hw⟩
end

/-! ### data out of cells -/
def Conv (K : PySem.W.Frag) (S : Store) (d : D) (S2 : Store) (d2 : D) : Prop := Sub S2 S ∧ ∀ F H v, Ok K F S H → RepD K F S H d v → RepD K F S2 H d2 v
theorem Conv.refl (K : PySem.W.Frag) (S : Store) (d : D) : Conv K S d S d := ⟨Sub.refl S, fun _ _ _ _ h => h⟩
theorem Conv.sub {K : PySem.W.Frag} {S S2 : Store} {d : D} (s : Sub S2 S) : Conv K S d S2 d := ⟨s, fun _ _ _ _ h => RepD.mv s.mv _ _ h⟩
theorem Conv.lst {K : PySem.W.Frag} {S : Store} {a : Addr} {xs : List D} (h : S a = some (.lst xs)) : Conv K S (.cel a) (sdel S a) (.lst xs) := ⟨sub_del S a, fun F H v ok r => by
  obtain ⟨n, vs, hv, rs⟩ := ok.cells a _ h
  exact ⟨a, vs, r, ⟨sdel_same, n, hv⟩, RepDs.mv (sub_del S a).mv _ _ rs⟩⟩
theorem Conv.then_ {K : PySem.W.Frag} {S S2 S3 : Store} {d d2 d3 : D} (a : Conv K S d S2 d2) (b : Conv K S2 d2 S3 d3) : Conv K S d S3 d3 := ⟨b.1.trans a.1, fun F H v ok r => b.2 F H v (a.1.ok ok) (a.2 F H v ok r)⟩
/-- behind a def: the store may forget cells, the value may turn from cells to data -/
def Fin (K : PySem.W.Frag) (Q : PQ) : PQ := fun d S => ∃ S2 d2, Conv K S d S2 d2 ∧ Q d2 S2
theorem Fin.here {K : PySem.W.Frag} {Q : PQ} {d : D} {S : Store} (h : Q d S) : Fin K Q d S := ⟨S, d, Conv.refl K S d, h⟩
theorem Fin.sub {K : PySem.W.Frag} {Q : PQ} {d : D} {S S2 : Store} (s : Sub S2 S) (h : Q d S2) : Fin K Q d S := ⟨S2, d, Conv.sub s, h⟩

/-! ### defs -/
abbrev PSpec := List D → Store → PQ → Prop
def spP (K : PySem.W.Frag) (p : PSpec) : Sp := fun vs H Q _ => ∃ F S ds Qp, Ok K F S H ∧ RepDs K F S H ds vs ∧ p ds S Qp ∧ Post K F S H Qp Q
def startD (N : List Str) (ds : List D) : En := ds.map some ++ List.replicate (N.length - ds.length) none
theorem relE_start {K : PySem.W.Frag} {F : Addr → Prop} {S : Store} {H : Hp} {ds : List D} {vs : List V} (N : List Str) (r : RepDs K F S H ds vs) : RelE K F S H (startD N ds) (L2.start N vs) := by
  refine ⟨?_, fun i d h => ?_⟩
  · unfold startD L2.start
    simp [r.length]
  · unfold startD at h
    unfold L2.start
    by_cases hi : i < ds.length
    · rw [List.getElem?_append_left (by simpa using hi), List.getElem?_map] at h
      cases e : ds[i]? with
      | none => rw [e] at h; cases h
      | some d' =>
        rw [e] at h
        cases h
        obtain ⟨v, h1, h2⟩ := r.get e
        exact ⟨v, by rw [List.getElem?_append_left (by simpa [← r.length] using hi), List.getElem?_map, h1]; rfl, h2⟩
    · rw [List.getElem?_append_right (by simpa using hi), List.getElem?_replicate] at h
      split at h <;> cases h
section
variable {P : Program} {w : World} {K : PySem.W.Frag} {mg : Str → Option Value} {base : Heap}
/-- THE RULE for a def: its body's derivation, and the pure goal -/
theorem fn_pure {x qual : Str} {st : Stmt} {f : Addr} {fd : FuncData} {N ps : List Str} {k : Nat} {p : PSpec} (Fn : Fun K x qual st f fd) (Sc : FnScope N ps (defScope st)) (len : ∀ ds S Q, p ds S Q → ds.length = ps.length)
    (hbody : ∀ (cdv : Value) (A : Around) (outer : List Env) (s : Shared) (H : Hp) (E : XK), Room k (A.deeper (envOfC qual (defScope st) s.heap.objs.size f cdv)) →
      ∃ wb, DSs (cxOf CX0 P w K mg base N qual (defScope st) f cdv A outer s H E).nox gTrue (defBody st) wb ∧ ∀ ds S Q, p ds S Q → wb { nx := fun _ S' => Fin K Q .non S', rt := Fin K Q } (startD N ds) S) : FnOk P w K mg base CX0 (k + 1) f fd ps (spP K p) := by
  refine Fn.ok Sc (fun vs H Q E ⟨F, S, ds, Qp, ok, rs, hp, post⟩ => by rw [← rs.length]; exact len _ _ _ hp) fun cdv A outer s H vs Q E hr ⟨F, S, ds, Qp, ok, rs, hp, post⟩ => ?_
  obtain ⟨wb, ⟨t, pt, st⟩, hb⟩ := hbody cdv A outer s H E hr
  refine ⟨t, pt, st ⟨ok, relE_start N rs, trivial⟩ (hb ds S Qp hp) ⟨?_, ?_, fun _ _ z => z.elim, fun _ _ z => z.elim⟩⟩
  · rintro env' S' σ' H' a f ⟨S2, d2, cv, q⟩
    exact post .non H' d2 S2 (cv.1.ok a.ok) (f.trans cv.1.fr) (cv.2 F H' _ a.ok rfl) q
  · rintro v H' d S' ok' f r ⟨S2, d2, cv, q⟩
    exact post v H' d2 S2 (cv.1.ok ok') (f.trans cv.1.fr) (cv.2 F H' v ok' r) q
end
section
variable {X : Cx} {G : Gd} {a b c e : Expr} {es : List Expr} {wa wb wc : WE} {pos : Pos} {wt wu : WT} {wr : WA}
def wCall (p : PSpec) (wr : WA) : WE := fun env S Q => wr env S fun ds S1 => p ds S1 Q
theorem snd_call {K : PySem.W.Frag} {p : PSpec} {t : TA} {E : XK} (h : SndA K G t wr) : SndE K G (tCall (spP K p) [] E t) (wCall p wr) := fun {F S H env σ Q Q'} at_ hw post => h at_ hw fun vs H1 ds S1 ok1 f1 r1 q1 => by
  show spP K p (vs ++ []) H1 Q' E
  rw [List.append_nil]
  exact ⟨F, S1, ds, Q, ok1, r1, q1, post.fr f1⟩
theorem de_call {k : Nat} {f : Addr} {fd : FuncData} {ps : List Str} {p : PSpec} {x : Str} {px : Pos} (Fn : FnOk X.prog X.w X.K X.mg X.base CX0 k f fd ps (spP X.K p)) (hr : Room k X.A) (hm : X.mg x = some (.ref f)) (hk : PySem.W.keepIn X.K (.ref f) = true) (hb : Binds X.K fd ps []) (ha : DA X G (e :: es) wr)
    (hg : Gl X x := by rfl) (hdb : (x == ("__debug__" : Str)) = false := by decide) (he : starEach (e :: es) X.env = (false, eval e X.env) :: starEach es X.env := by rfl) (hpl : (backTo pos (starEach es X.env)).any (·.1) = false := by rfl) :
    DE X G (.Call (.Name x px) (e :: es) [] pos) (wCall p wr) := let ⟨_, pa, sa⟩ := ha; ⟨_, pe_call (E := E0) Fn hr hg hm hk hb .nil pass0 pa hdb he hpl, snd_call sa⟩
theorem de_call0 {k : Nat} {f : Addr} {fd : FuncData} {ps : List Str} {p : PSpec} {x : Str} {px : Pos} (Fn : FnOk X.prog X.w X.K X.mg X.base CX0 k f fd ps (spP X.K p)) (hr : Room k X.A) (hm : X.mg x = some (.ref f)) (hk : PySem.W.keepIn X.K (.ref f) = true) (hb : Binds X.K fd ps [])
    (hg : Gl X x := by rfl) (hdb : (x == ("__debug__" : Str)) = false := by decide) : DE X G (.Call (.Name x px) [] [] pos) (wCall p wNil) := ⟨_, pe_call0 (E := E0) Fn hr hg hm hk hb .nil pass0 hdb, snd_call fun at_ hw post => post [] _ [] _ at_.ok (Fr.refl _ _) rfl hw⟩
/-- a value turned from cells to data -/
def wFrz (K : PySem.W.Frag) (wa : WE) : WE := fun env S Q => wa env S fun d S1 => Fin K Q d S1
theorem de_frz (h : DE X G e wa) : DE X G e (wFrz X.K wa) := let ⟨_, p, s⟩ := h; ⟨_, p, fun {F S H env σ Q Q'} at_ hw post => s at_ hw fun v H1 d S1 ok1 f1 r1 ⟨S2, d2, cv, q⟩ => post v H1 d2 S2 (cv.1.ok ok1) (f1.trans cv.1.fr) (cv.2 F H1 v ok1 r1) q⟩

/-! ### texts -/
def fAddS (x y : D) (S : Store) (Q : PQ) : Prop := match x, y with
  | .str i, .str j => i.length + j.length ≤ sizeLine ∧ Q (.str (i ++ j)) S
  | _, _ => False
theorem de_addS (ha : DE X G a wa) (hb : DE X G b wb) : DE X G (.BinOp a .Add b pos) (wOp fAddS wa wb) := de_op op_add_str (fun {F S H x y a b Q Q'} ok r1 r2 hf post => by
  unfold fAddS at hf
  split at hf
  · rename_i i j
    exact ⟨i, j, r1, r2, hf.1, post.here ok (d := .str (i ++ j)) rfl hf.2⟩
  · exact hf.elim) ha hb
def fIxS (x y : D) (S : Store) (Q : PQ) : Prop := match x, y with
  | .str z, .int i => z.length ≤ sizeLine ∧ match atI z.cps.toList i with
    | some c => Q (.str ⟨#[c]⟩) S
    | none => False
  | _, _ => False
theorem de_ixS (ha : DE X G a wa) (hb : DE X G b wb) (hs : PlainIx b := by exact fun _ _ => rfl) : DE X G (.Subscript a b pos) (wOp fIxS wa wb) := de_ix ix_str (fun {F S H x y a b Q Q'} ok r1 r2 hf post => by
  unfold fIxS at hf
  split at hf
  · rename_i z i
    obtain ⟨hl, hf⟩ := hf
    split at hf
    · rename_i c ec
      exact ⟨z, i, c, r1, r2, hl, ec, post.here ok (d := .str ⟨#[c]⟩) rfl hf⟩
    · exact hf.elim
  · exact hf.elim) ha hb hs
def fInS (x y : D) (S : Store) (Q : PQ) : Prop := match x, y with
  | .str s, .str z => ∃ c, s = ⟨#[c]⟩ ∧ Q (.bl (decide (c ∈ z.cps.toList))) S
  | _, _ => False
theorem sr_inS {K : PySem.W.Frag} : SndR K (fun x y H Q => ∃ (c : Nat) (z : Str), x = .str ⟨#[c]⟩ ∧ y = .str z ∧ Q (.bl (decide (c ∈ z.cps.toList))) H) fInS := fun {F S H x y a b Q Q'} ok r1 r2 hf post => by
  unfold fInS at hf
  split at hf
  · rename_i s z
    obtain ⟨c, rfl, q⟩ := hf
    exact ⟨c, z, r1, r2, post.here ok (d := .bl _) rfl q⟩
  · exact hf.elim
theorem de_inS (ha : DE X G a wa) (hb : DE X G b wb) (hm : behindInMarks .In b = false := by rfl) : DE X G (.Compare a [.In] [b] pos) (wOp fInS wa wb) := de_cmp op_in_sign sr_inS ha hb hm
def fMulS (x y : D) (S : Store) (Q : PQ) : Prop := match x, y with
  | .str z, .int n => MulOk z n ∧ Q (.str (Txt.mul z n)) S
  | _, _ => False
theorem op_mulS : OpR X (binaryOp .Mult) (fun x y H Q => ∃ z n, x = .str z ∧ y = .int n ∧ MulOk z n ∧ Q (.str (Txt.mul z n)) H) := by
  intro pins s σ H x y v u Q I rx ry h
  obtain ⟨z, n, rfl, rfl, hk, q⟩ := h
  obtain ⟨t, rfl⟩ := rx
  obtain ⟨t', rfl⟩ := ry
  exact SB.mul hk fun t2 k => ⟨.str _, H, I.tok _, ⟨_, rfl⟩, q⟩
theorem de_mulS (ha : DE X G a wa) (hb : DE X G b wb) : DE X G (.BinOp a .Mult b pos) (wOp fMulS wa wb) := de_op op_mulS (fun {F S H x y a b Q Q'} ok r1 r2 hf post => by
  unfold fMulS at hf
  split at hf
  · rename_i z n
    exact ⟨z, n, r1, r2, hf.1, post.here ok (d := .str _) rfl hf.2⟩
  · exact hf.elim) ha hb
/-- slices -/
abbrev WO := En → Store → (Option Int → Store → Prop) → Prop
def SndO (K : PySem.W.Frag) (G : Gd) (t : TO) (w : WO) : Prop := ∀ {F : Addr → Prop} {S : Store} {H : Hp} {env : En} {σ : L2.St} {Q : Option Int → Store → Prop} {Q' : Option Int → Hp → Prop}, At K G F S H env σ → w env S Q → (∀ o H' S', Ok K F S' H' → Fr S H S' H' → Q o S' → Q' o H') → t σ H Q'
def DO (X : Cx) (G : Gd) (e : Option Expr) (w : WO) : Prop := ∃ t, PO X e t ∧ SndO X.K G t w
def wNoPart : WO := fun _ S Q => Q none S
def wPart (wa : WE) : WO := fun env S Q => wa env S fun d S1 => match d with
  | .int i => Q (some i) S1
  | _ => False
theorem do_none : DO X G none wNoPart := ⟨_, po_none, fun at_ hw post => post none _ _ at_.ok (Fr.refl _ _) hw⟩
theorem do_some (h : DE X G e wa) : DO X G (some e) (wPart wa) := let ⟨_, p, s⟩ := h; ⟨_, po_some p, fun {F S H env σ Q Q'} at_ hw post => s at_ hw fun v H1 d S1 ok1 f1 r1 q1 => by
  cases d <;> first | exact q1.elim | skip
  rename_i i
  exact ⟨i, r1, post _ H1 S1 ok1 f1 q1⟩⟩
def SndSl (K : PySem.W.Frag) (r : V → Option Int → Option Int → Hp → VK → Prop) (f : D → Option Int → Option Int → Store → PQ → Prop) : Prop := ∀ {F : Addr → Prop} {S : Store} {H : Hp} {x : V} {a : D} {lo hi : Option Int} {Q : PQ} {Q' : VK}, Ok K F S H → RepD K F S H a x → f a lo hi S Q → Post K F S H Q Q' → r x lo hi H Q'
def wSl (f : D → Option Int → Option Int → Store → PQ → Prop) (wa : WE) (wl wh : WO) : WE := fun env S Q => wa env S fun x S1 => wl env S1 fun lo S2 => wh env S2 fun hi S3 => f x lo hi S3 Q
theorem de_slice {r : V → Option Int → Option Int → Hp → VK → Prop} {f : D → Option Int → Option Int → Store → PQ → Prop} {lo hi : Option Expr} {p2 : Pos} {wl wh : WO} (hr : SlR X r) (hf : SndSl X.K r f) (he : DE X G e wa) (hl : DO X G lo wl) (hu : DO X G hi wh) : DE X G (.Subscript e (.Slice lo hi none p2) pos) (wSl f wa wl wh) :=
  let ⟨_, p1, s1⟩ := he; let ⟨_, p2, s2⟩ := hl; let ⟨_, p3, s3⟩ := hu; ⟨_, pe_slice hr p1 p2 p3, fun {F S H env σ Q Q'} at_ hw post => s1 at_ hw fun v H1 d S1 ok1 f1 r1 q1 => s2 (at_.to ok1 f1) q1 fun o H2 S2 ok2 f2 q2 => s3 (at_.to ok2 (f1.trans f2)) q2 fun o' H3 S3 ok3 f3 q3 =>
    hf ok3 (RepD.mv (f2.trans f3).mv _ _ r1) q3 (post.fr ((f1.trans f2).trans f3))⟩
def fSlS (x : D) (lo hi : Option Int) (S : Store) (Q : PQ) : Prop := match x with
  | .str z => z.length ≤ sizeLine ∧ Q (.str (cutS z lo hi)) S
  | _ => False
theorem de_slS {lo hi : Option Expr} {p2 : Pos} {wl wh : WO} (he : DE X G e wa) (hl : DO X G lo wl) (hu : DO X G hi wh) : DE X G (.Subscript e (.Slice lo hi none p2) pos) (wSl fSlS wa wl wh) := de_slice sl_str (fun {F S H x a lo hi Q Q'} ok r1 hf post => by
  unfold fSlS at hf
  split at hf
  · rename_i z
    exact ⟨z, r1, hf.1, post.here ok (d := .str _) rfl hf.2⟩
  · exact hf.elim) he hl hu
def cutP (xs : List D) (lo hi : Option Int) : List D := (xs.drop (HT.sIx xs.length 0 lo)).take (HT.sIx xs.length xs.length hi - HT.sIx xs.length 0 lo)
theorem rep_cut {K : PySem.W.Frag} {F : Addr → Prop} {S : Store} {H : Hp} {xs : List D} {vs : List V} (rs : RepDs K F S H xs vs) (lo hi : Option Int) : RepDs K F S H (cutP xs lo hi) (cutV vs lo hi) := by
  unfold cutP cutV
  rw [rs.length]
  exact RepDs.take _ (RepDs.drop _ rs)
def fSlL (x : D) (lo hi : Option Int) (S : Store) (Q : PQ) : Prop := match lstOf S x with
  | some xs => Q (.lst (cutP xs lo hi)) S
  | none => False
theorem de_slL {lo hi : Option Expr} {p2 : Pos} {wl wh : WO} (he : DE X G e wa) (hl : DO X G lo wl) (hu : DO X G hi wh) : DE X G (.Subscript e (.Slice lo hi none p2) pos) (wSl fSlL wa wl wh) := de_slice sl_list (fun {F S H x a lo hi Q Q'} ok r1 hf post => by
  unfold fSlL at hf
  split at hf
  · rename_i xs e
    obtain ⟨p, vs, rfl, hs, rs⟩ := lst_of ok r1 e
    exact ⟨p, vs, rfl, hs, fun q hq => post.newL ok (rep_cut rs lo hi) hf hq⟩
  · exact hf.elim) he hl hu

/-! ### built-ins -/
def fLenS (xs : List D) (S : Store) (Q : PQ) : Prop := match xs with
  | [.str z] => z.length ≤ sizeLine ∧ Q (.int z.length) S
  | _ => False
def fLenL (xs : List D) (S : Store) (Q : PQ) : Prop := match xs with
  | [d] => match seqOf S d with
    | some ys => Q (.int ys.length) S
    | none => False
  | _ => False
theorem one_rep {K : PySem.W.Frag} {F : Addr → Prop} {S : Store} {H : Hp} {d : D} {vs : List V} (r : RepDs K F S H [d] vs) : ∃ v, vs = [v] ∧ RepD K F S H d v := by
  obtain ⟨v, _, rfl, h, z⟩ := r
  cases z
  exact ⟨v, rfl, h⟩
theorem two_rep {K : PySem.W.Frag} {F : Addr → Prop} {S : Store} {H : Hp} {d e : D} {vs : List V} (r : RepDs K F S H [d, e] vs) : ∃ v u, vs = [v, u] ∧ RepD K F S H d v ∧ RepD K F S H e u := by
  obtain ⟨v, _, rfl, h, u, _, rfl, h', z⟩ := r
  cases z
  exact ⟨v, u, rfl, h, h'⟩
theorem sc_lenL {K : PySem.W.Frag} : SndC K (fun xs H Q => ∃ p ys, xs = [V.ref p] ∧ (SqL K H p ys ∨ SqT K H p ys) ∧ Q (.int ys.length) H) fLenL := fun {F S H xs as Q Q'} ok rs hf post => by
  unfold fLenL at hf
  split at hf
  · rename_i d
    split at hf
    · rename_i ys e
      obtain ⟨v, rfl, r⟩ := one_rep rs
      obtain ⟨p, vs, rfl, hs, rr⟩ := seq_of ok r e
      exact ⟨p, vs, rfl, hs, post.here ok (d := .int ys.length) (by show V.int _ = V.int _; rw [rr.length]) hf⟩
    · exact hf.elim
  · exact hf.elim
theorem de_lenL {p : Pos} (hm : X.mg "len" = none) (ha : DE X G e wa) (hg : Gl X "len" := by rfl) (he : starEach [e] X.env = (false, eval e X.env) :: starEach [] X.env := by rfl) (hpl : (backTo pos (starEach [] X.env)).any (·.1) = false := by rfl) : DE X G (.Call (.Name "len" p) [e] [] pos) (wCB fLenL (wCons wa wNil)) :=
  de_callB call_len_seq sc_lenL hm (da_cons ha da_nil he) PySem.boot_len hg (by decide) (by decide) he hpl
theorem de_lenS {p : Pos} (hm : X.mg "len" = none) (ha : DE X G e wa) (hg : Gl X "len" := by rfl) (he : starEach [e] X.env = (false, eval e X.env) :: starEach [] X.env := by rfl) (hpl : (backTo pos (starEach [] X.env)).any (·.1) = false := by rfl) : DE X G (.Call (.Name "len" p) [e] [] pos) (wCB fLenS (wCons wa wNil)) :=
  de_callB (r := fun xs H Q => ∃ z : Str, xs = [V.str z] ∧ z.length ≤ sizeLine ∧ Q (.int z.length) H) call_len_str (fun {F S H xs as Q Q'} ok rs hf post => by
    unfold fLenS at hf
    split at hf
    · rename_i z
      obtain ⟨v, rfl, r⟩ := one_rep rs
      cases r
      exact ⟨z, rfl, hf.1, post.here ok (d := .int z.length) rfl hf.2⟩
    · exact hf.elim) hm (da_cons ha da_nil he) PySem.boot_len hg (by decide) (by decide) he hpl
/-- all([..]) of truths -/
def blsOf : List D → Option (List Bool)
  | [] => some []
  | .bl b :: r => (blsOf r).map (b :: ·)
  | _ :: _ => none
theorem blsOf_map : ∀ bs : List Bool, blsOf (bs.map D.bl) = some bs
  | [] => rfl
  | b :: r => by show (blsOf (r.map D.bl)).map (b :: ·) = _; rw [blsOf_map r]; rfl
theorem blsOf_is : ∀ {ds : List D} {bs : List Bool}, blsOf ds = some bs → ds = bs.map D.bl
  | [], bs, h => by cases h; rfl
  | d :: r, bs, h => by
    cases d <;> simp only [blsOf, reduceCtorEq] at h
    rename_i b
    cases e : blsOf r with
    | none => rw [e] at h; cases h
    | some cs => rw [e] at h; cases h; rw [blsOf_is e]; rfl
def fAll (xs : List D) (S : Store) (Q : PQ) : Prop := match xs with
  | [d] => match lstOf S d with
    | some ys => match blsOf ys with
      | some bs => Q (.bl (bs.all id)) S
      | none => False
    | none => False
  | _ => False
theorem sc_all {K : PySem.W.Frag} : SndC K (rAll K) fAll := fun {F S H xs as Q Q'} ok rs hf post => by
  unfold fAll at hf
  split at hf
  · rename_i d
    split at hf
    · rename_i ys e
      split at hf
      · rename_i bs eb
        obtain ⟨v, rfl, r⟩ := one_rep rs
        obtain ⟨p, vs, rfl, hs, rr⟩ := lst_of ok r e
        rw [blsOf_is eb] at rr
        have ev := rr.bls
        subst ev
        exact ⟨p, bs, rfl, hs, post.here ok (d := .bl _) rfl hf⟩
      · exact hf.elim
    · exact hf.elim
  · exact hf.elim
theorem de_all {p : Pos} (hc : X.calm = true) (hm : X.mg "all" = none) (ha : DE X G e wa) (hg : Gl X "all" := by rfl) (he : starEach [e] X.env = (false, eval e X.env) :: starEach [] X.env := by rfl) (hpl : (backTo pos (starEach [] X.env)).any (·.1) = false := by rfl) : DE X G (.Call (.Name "all" p) [e] [] pos) (wCB fAll (wCons wa wNil)) :=
  de_callB (cr_all hc) sc_all hm (da_cons ha da_nil he) (by decide +kernel) hg (by decide) (by decide) he hpl
def fList (xs : List D) (S : Store) (Q : PQ) : Prop := match xs with
  | [d] => match seqOf S d with
    | some ys => Q (.lst ys) S
    | none => False
  | _ => False
end
end Pz

set_option Elab.async false
set_option linter.all false
set_option maxRecDepth 100000
set_option maxHeartbeats 4000000
namespace Pz
open PySem PySem.Spec PyProof.Rows L2

section
variable {P : Program} {w : World} {K : PySem.W.Frag} {mg : Str → Option Value} {base : Heap}
/-- a def of the top (defaults dvs, keyword-only defaults kws) -/
theorem fn_pureD {x qual : Str} {params : Arguments} {body : List Stmt} {scope : Scope} {dvs : List V} {kws : List (Str × V)} {f : Addr} {fd : FuncData} {N ps : List Str} {k : Nat} {p : PSpec} (Fn : FunD K x qual params body scope dvs kws f fd) (Sc : FnScope N ps scope) (len : ∀ ds S Q, p ds S Q → ds.length = ps.length)
    (hbody : ∀ (cdv : Value) (A : Around) (outer : List Env) (s : Shared) (H : Hp) (E : XK), Room k (A.deeper (envOfC qual scope s.heap.objs.size f cdv)) →
      ∃ wb, DSs (cxOf CX0 P w K mg base N qual scope f cdv A outer s H E).nox gTrue body wb ∧ ∀ ds S Q, p ds S Q → wb { nx := fun _ S' => Fin K Q .non S', rt := Fin K Q } (startD N ds) S) : FnOk P w K mg base CX0 (k + 1) f fd ps (spP K p) := by
  refine Fn.ok Sc (fun vs H Q E ⟨F, S, ds, Qp, ok, rs, hp, post⟩ => by rw [← rs.length]; exact len _ _ _ hp) fun cdv A outer s H vs Q E hr ⟨F, S, ds, Qp, ok, rs, hp, post⟩ => ?_
  obtain ⟨wb, ⟨t, pt, st⟩, hb⟩ := hbody cdv A outer s H E hr
  refine ⟨t, pt.nox, st ⟨ok, relE_start N rs, trivial⟩ (hb ds S Qp hp) ⟨?_, ?_, fun _ _ z => z.elim, fun _ _ z => z.elim⟩⟩
  · rintro env' S' σ' H' a f ⟨S2, d2, cv, q⟩
    exact post .non H' d2 S2 (cv.1.ok a.ok) (f.trans cv.1.fr) (cv.2 F H' _ a.ok rfl) q
  · rintro v H' d S' ok' f r ⟨S2, d2, cv, q⟩
    exact post v H' d2 S2 (cv.1.ok ok') (f.trans cv.1.fr) (cv.2 F H' v ok' r) q
end
/-- a def and how it is called: what a caller needs -/
structure Callee (P : Program) (w : World) (K : PySem.W.Frag) (mg : Str → Option Value) (base : Heap) (k : Nat) (x : Str) (ps : List Str) (p : PSpec) : Prop where
  ex : ∃ f fd, FnOk P w K mg base CX0 k f fd ps (spP K p) ∧ mg x = some (.ref f) ∧ PySem.W.keepIn K (.ref f) = true ∧ Binds K fd ps []
section
variable {X : Cx} {G : Gd} {a b c e : Expr} {es : List Expr} {wa wb wc : WE} {pos : Pos} {wt wu : WT} {wr : WA}
theorem de_f {k : Nat} {ps : List Str} {p : PSpec} {x : Str} {px : Pos} (C : Callee X.prog X.w X.K X.mg X.base k x ps p) (hr : Room k X.A) (ha : DA X G (e :: es) wr)
    (hg : Gl X x := by rfl) (hdb : (x == ("__debug__" : Str)) = false := by decide) (he : starEach (e :: es) X.env = (false, eval e X.env) :: starEach es X.env := by rfl) (hpl : (backTo pos (starEach es X.env)).any (·.1) = false := by rfl) :
    DE X G (.Call (.Name x px) (e :: es) [] pos) (wCall p wr) := let ⟨f, fd, h1, h2, h3, h4⟩ := C.ex; de_call h1 hr h2 h3 h4 ha hg hdb he hpl
theorem de_f0 {k : Nat} {ps : List Str} {p : PSpec} {x : Str} {px : Pos} (C : Callee X.prog X.w X.K X.mg X.base k x ps p) (hr : Room k X.A)
    (hg : Gl X x := by rfl) (hdb : (x == ("__debug__" : Str)) = false := by decide) :
    DE X G (.Call (.Name x px) [] [] pos) (wCall p wNil) := let ⟨f, fd, h1, h2, h3, h4⟩ := C.ex; de_call0 h1 hr h2 h3 h4 hg hdb

/-! ### methods of built-in types -/
def isTy (T : String) (S : Store) : D → Prop
  | .str _ => T = "str"
  | .lst _ => T = "list"
  | .fro _ => T = "list"
  | .cel a => match S a with
    | some (.lst _) => T = "list"
    | some (.dT _ _) => T = "dict"
    | some (.dK _ _) => T = "dict"
    | _ => False
  | .dT _ _ => T = "dict"
  | .dK _ _ => T = "dict"
  | _ => False
theorem ty_rep {K : PySem.W.Frag} {F : Addr → Prop} {S : Store} {H : Hp} {d : D} {v : V} {T : String} (ok : Ok K F S H) (r : RepD K F S H d v) (h : isTy T S d) : tyV K T v H := by
  cases d <;> simp only [isTy] at h
  · cases r; exact h
  · rename_i a
    cases r
    split at h
    · rename_i xs e
      obtain ⟨_, vs, hv, _⟩ := ok.cells a _ e
      exact .inl ⟨h, vs, .inl (.inl hv)⟩
    · rename_i ks xs e
      obtain ⟨_, vs, hv, _⟩ := ok.cells a _ e
      exact .inr (.inr (.inl ⟨h, .inr ⟨_, hv⟩⟩))
    · rename_i ks xs e
      obtain ⟨_, vs, hv, _⟩ := ok.cells a _ e
      exact .inr (.inr (.inl ⟨h, .inl ⟨_, hv⟩⟩))
    · exact h.elim
  · obtain ⟨a, vs, rfl, hl, _⟩ := r
    exact .inl ⟨h, vs, hl.sq⟩
  · obtain ⟨a, vs, rfl, hl, _⟩ := r
    exact .inl ⟨h, vs, hl.sq⟩
  · obtain ⟨a, vs, rfl, ⟨_, _, hv⟩, _⟩ := r
    exact .inr (.inr (.inl ⟨h, .inr ⟨_, hv⟩⟩))
  · obtain ⟨a, vs, rfl, ⟨_, _, hv⟩, _⟩ := r
    exact .inr (.inr (.inl ⟨h, .inl ⟨_, hv⟩⟩))
def wBM (T : String) (f : D → List D → Store → PQ → Prop) (wo : WE) (wr : WA) : WE := fun env S Q => wo env S fun x S1 => isTy T S1 x ∧ wr env S1 fun xs S2 => f x xs S2 Q
def wBM0 (T : String) (f : D → List D → Store → PQ → Prop) (wo : WE) : WE := fun env S Q => wo env S fun x S1 => isTy T S1 x ∧ f x [] S1 Q
theorem de_bm {o : Expr} {wo : WE} {name : Str} {apos cpos : Pos} {T id : String} {r : V → List V → Hp → VK → Prop} {f : D → List D → Store → PQ → Prop} (pa : PlainAttrs T) (slot : Slot T name id) (hty : typeOf (.builtin id) = pure (.type "method_descriptor")) (hm : MtR X id r) (hf : SndM X.K r f) (ho : DE X G o wo) (ha : DA X G (e :: es) wr)
    (hbase : attributeBase o name X.env (eval o X.env) = eval o X.env := by rfl)
    (hfew : ((backTo cpos (starEach (e :: es) X.env)).all (fun x => !x.1) && (backToKw cpos (keywordEach [] X.env)).all (fun x => x.1.isSome)
      && decide ((e :: es).length + ([] : List Keyword).length + (if ([] : List Keyword).isEmpty then 0 else 1) < 30)) = true := by rfl)
    (hline : (apos.endLine == cpos.line) = true := by rfl) (hs : starEach (e :: es) X.env = (false, eval e X.env) :: starEach es X.env := by rfl) (hplain : (backTo cpos (starEach es X.env)).any (·.1) = false := by rfl) :
    DE X G (.Call (.Attribute o name apos) (e :: es) [] cpos) (wBM T f wo wr) :=
  let ⟨_, p1, s1⟩ := ho; let ⟨_, p2, s2⟩ := ha; ⟨_, pe_bm pa slot hty hm p1 p2 hbase hfew hline hs hplain, fun {F S H env σ Q Q'} at_ hw post => s1 at_ hw fun x H1 dx S1 ok1 f1 r1 q1 =>
    ⟨ty_rep ok1 r1 q1.1, s2 (at_.to ok1 f1) q1.2 fun xs H2 ds S2 ok2 f2 r2 q2 => hf ok2 (RepD.mv f2.mv _ _ r1) r2 q2 (post.fr (f1.trans f2))⟩⟩
theorem de_bm0 {o : Expr} {wo : WE} {name : Str} {apos cpos : Pos} {T id : String} {r : V → List V → Hp → VK → Prop} {f : D → List D → Store → PQ → Prop} (pa : PlainAttrs T) (slot : Slot T name id) (hty : typeOf (.builtin id) = pure (.type "method_descriptor")) (hm : MtR X id r) (hf : SndM X.K r f) (ho : DE X G o wo)
    (hbase : attributeBase o name X.env (eval o X.env) = eval o X.env := by rfl) (hline : (apos.endLine == cpos.line) = true := by rfl) :
    DE X G (.Call (.Attribute o name apos) [] [] cpos) (wBM0 T f wo) :=
  let ⟨_, p1, s1⟩ := ho; ⟨_, pe_bm0 pa slot hty hm p1 hbase hline, fun {F S H env σ Q Q'} at_ hw post => s1 at_ hw fun x H1 dx S1 ok1 f1 r1 q1 => ⟨ty_rep ok1 r1 q1.1, hf (as := []) ok1 r1 rfl q1.2 (post.fr f1)⟩⟩
def strsOf : List D → Option (List Str)
  | [] => some []
  | .str b :: r => (strsOf r).map (b :: ·)
  | _ :: _ => none
theorem strsOf_map : ∀ bs : List Str, strsOf (bs.map D.str) = some bs
  | [] => rfl
  | b :: r => by show (strsOf (r.map D.str)).map (b :: ·) = _; rw [strsOf_map r]; rfl
theorem strsOf_is : ∀ {ds : List D} {bs : List Str}, strsOf ds = some bs → ds = bs.map D.str
  | [], bs, h => by cases h; rfl
  | d :: r, bs, h => by
    cases d <;> simp only [strsOf, reduceCtorEq] at h
    rename_i b
    cases e : strsOf r with
    | none => rw [e] at h; cases h
    | some cs => rw [e] at h; cases h; rw [strsOf_is e]; rfl
def fJoin (x : D) (xs : List D) (S : Store) (Q : PQ) : Prop := match x, xs with
  | .str a, [d] => match seqOf S d with
    | some ds => match strsOf ds with
      | some ys => (ys.map (·.length)).sum + ys.length * a.length ≤ 16777216 ∧ Q (.str (Txt.join a ys)) S
      | none => False
    | none => False
  | _, _ => False
theorem sm_join {K : PySem.W.Frag} : SndM K (fun x xs H Q => ∃ a p, ∃ ys : List Str, x = .str a ∧ xs = [.ref p] ∧ (SqL K H p (ys.map V.str) ∨ SqT K H p (ys.map V.str)) ∧ (ys.map (·.length)).sum + ys.length * a.length ≤ 16777216 ∧ Q (.str (Txt.join a ys)) H) fJoin := fun {F S H x xs a as Q Q'} ok r1 rs hf post => by
  unfold fJoin at hf
  split at hf
  · rename_i z d
    split at hf
    · rename_i ds e
      split at hf
      · rename_i ys ey
        obtain ⟨v, rfl, r⟩ := one_rep rs
        obtain ⟨p, vs, rfl, hs, rr⟩ := seq_of ok r e
        rw [strsOf_is ey] at rr
        have ev := rr.strs
        subst ev
        exact ⟨z, p, ys, r1, rfl, hs, hf.1, post.here ok (d := .str _) rfl hf.2⟩
      · exact hf.elim
    · exact hf.elim
  · exact hf.elim
theorem de_join {o : Expr} {wo : WE} {apos cpos : Pos} (ho : DE X G o wo) (ha : DA X G [e] wr) (hbase : attributeBase o "join" X.env (eval o X.env) = eval o X.env := by rfl)
    (hfew : ((backTo cpos (starEach [e] X.env)).all (fun x => !x.1) && (backToKw cpos (keywordEach [] X.env)).all (fun x => x.1.isSome)
      && decide ([e].length + ([] : List Keyword).length + (if ([] : List Keyword).isEmpty then 0 else 1) < 30)) = true := by rfl)
    (hline : (apos.endLine == cpos.line) = true := by rfl) (hs : starEach [e] X.env = (false, eval e X.env) :: starEach [] X.env := by rfl) (hplain : (backTo cpos (starEach [] X.env)).any (·.1) = false := by rfl) : DE X G (.Call (.Attribute o "join" apos) [e] [] cpos) (wBM "str" fJoin wo wr) :=
  de_bm PySem.F.plainAttrs_str PySem.F.slot_str_join PySem.F.type_str_join mt_join sm_join ho ha hbase hfew hline hs hplain
def fUpper (x : D) (xs : List D) (S : Store) (Q : PQ) : Prop := match x, xs with
  | .str a, [] => a.length ≤ 5592405 ∧ Q (.str (Txt.upper a)) S
  | _, _ => False
theorem de_upper {o : Expr} {wo : WE} {apos cpos : Pos} (ho : DE X G o wo) (hbase : attributeBase o "upper" X.env (eval o X.env) = eval o X.env := by rfl) (hline : (apos.endLine == cpos.line) = true := by rfl) : DE X G (.Call (.Attribute o "upper" apos) [] [] cpos) (wBM0 "str" fUpper wo) :=
  de_bm0 PySem.F.plainAttrs_str PySem.F.slot_str_upper PySem.F.type_str_upper mt_upper (fun {F S H x xs a as Q Q'} ok r1 rs hf post => by
    unfold fUpper at hf
    split at hf
    · rename_i z
      cases rs
      exact ⟨z, r1, rfl, hf.1, post.here ok (d := .str _) rfl hf.2⟩
    · exact hf.elim) ho hbase hline
/-! ### lists -/
theorem sc_list {K : PySem.W.Frag} : SndC K (fun xs H Q => ∃ p ys, xs = [V.ref p] ∧ (SqL K H p ys ∨ SqT K H p ys) ∧ ∀ l, H l = none → Q (.ref l) (upd H l (.lst ys))) fList := fun {F S H xs as Q Q'} ok rs hf post => by
  unfold fList at hf
  split at hf
  · rename_i d
    split at hf
    · rename_i ys e
      obtain ⟨v, rfl, r⟩ := one_rep rs
      obtain ⟨p, vs, rfl, hs, rr⟩ := seq_of ok r e
      exact ⟨p, vs, rfl, hs, fun l hl => post.newL ok rr hf hl⟩
    · exact hf.elim
  · exact hf.elim
def fListC (xs : List D) (S : Store) (Q : PQ) : Prop := match xs with
  | [d] => match seqOf S d with
    | some ys => ∀ a, S a = none → Q (.cel a) (sset S a (.lst ys))
    | none => False
  | _ => False
theorem sc_listC {K : PySem.W.Frag} : SndC K (fun xs H Q => ∃ p ys, xs = [V.ref p] ∧ (SqL K H p ys ∨ SqT K H p ys) ∧ ∀ l, H l = none → Q (.ref l) (upd H l (.lst ys))) fListC := fun {F S H xs as Q Q'} ok rs hf post => by
  unfold fListC at hf
  split at hf
  · rename_i d
    split at hf
    · rename_i ys e
      obtain ⟨v, rfl, r⟩ := one_rep rs
      obtain ⟨p, vs, rfl, hs, rr⟩ := seq_of ok r e
      exact ⟨p, vs, rfl, hs, fun l hl => post.newC ok rr hf hl⟩
    · exact hf.elim
  · exact hf.elim
theorem de_list {p : Pos} (hm : X.mg "list" = none) (ha : DE X G e wa) (hg : Gl X "list" := by rfl) (he : starEach [e] X.env = (false, eval e X.env) :: starEach [] X.env := by rfl) (hpl : (backTo pos (starEach [] X.env)).any (·.1) = false := by rfl) : DE X G (.Call (.Name "list" p) [e] [] pos) (wCB fList (wCons wa wNil)) :=
  de_callTy call_list_of sc_list hm (da_cons ha da_nil he) (by decide +kernel) hg (by decide) (by decide) he hpl
theorem de_listC {p : Pos} (hm : X.mg "list" = none) (ha : DE X G e wa) (hg : Gl X "list" := by rfl) (he : starEach [e] X.env = (false, eval e X.env) :: starEach [] X.env := by rfl) (hpl : (backTo pos (starEach [] X.env)).any (·.1) = false := by rfl) : DE X G (.Call (.Name "list" p) [e] [] pos) (wCB fListC (wCons wa wNil)) :=
  de_callTy call_list_of sc_listC hm (da_cons ha da_nil he) (by decide +kernel) hg (by decide) (by decide) he hpl
/-- xs.append(e), xs a cell -/
def fAppend (x : D) (xs : List D) (S : Store) (Q : PQ) : Prop := match x, xs with
  | .cel a, [d] => match S a with
    | some (.lst ys) => ys.length < sizeLine ∧ Q .non (sset S a (.lst (ys ++ [d])))
    | _ => False
  | _, _ => False
theorem sm_append {K : PySem.W.Frag} : SndM K rAppend fAppend := fun {F S H x xs a as Q Q'} ok r1 rs hf post => by
  unfold fAppend at hf
  split at hf
  · rename_i l d
    split at hf
    · rename_i ys e
      obtain ⟨v, rfl, r⟩ := one_rep rs
      obtain ⟨_, vs, hv, rr⟩ := ok.cells l _ e
      have f : Fr S H (sset S l (.lst (ys ++ [d]))) (upd H l (.lst (vs ++ [v]))) := Fr.chg e
      exact ⟨l, vs, v, r1, rfl, hv, by rw [← rr.length]; exact hf.1, post _ _ .non _ (ok.chg (c' := .lst (ys ++ [d])) e ⟨_, upd_same, RepDs.append (RepDs.mv f.mv _ _ rr) (RepDs.one (RepD.mv f.mv _ _ r))⟩) f rfl hf.2⟩
    · exact hf.elim
  · exact hf.elim
theorem de_append {o : Expr} {wo : WE} {apos cpos : Pos} (ho : DE X G o wo) (ha : DA X G [e] wr) (hbase : attributeBase o "append" X.env (eval o X.env) = eval o X.env := by rfl)
    (hfew : ((backTo cpos (starEach [e] X.env)).all (fun x => !x.1) && (backToKw cpos (keywordEach [] X.env)).all (fun x => x.1.isSome)
      && decide ([e].length + ([] : List Keyword).length + (if ([] : List Keyword).isEmpty then 0 else 1) < 30)) = true := by rfl)
    (hline : (apos.endLine == cpos.line) = true := by rfl) (hs : starEach [e] X.env = (false, eval e X.env) :: starEach [] X.env := by rfl) (hplain : (backTo cpos (starEach [] X.env)).any (·.1) = false := by rfl) : DE X G (.Call (.Attribute o "append" apos) [e] [] cpos) (wBM "list" fAppend wo wr) :=
  de_bm PySem.F.plainAttrs_list PySem.F.slot_list_append PySem.F.type_list_append mt_append sm_append ho ha hbase hfew hline hs hplain
/-- xs.pop(i), xs a cell -/
def fPopAt (x : D) (xs : List D) (S : Store) (Q : PQ) : Prop := match x, xs with
  | .cel a, [.int i] => match S a with
    | some (.lst ys) => (-(2 ^ 63) ≤ i ∧ i < 2 ^ 63) ∧ match seqIndex? i ys.length with
      | some k => match ys[k]? with
        | some d => Q d (sset S a (.lst (ys.eraseIdx k)))
        | none => False
      | none => False
    | _ => False
  | _, _ => False
theorem RepDs.erase {K : PySem.W.Frag} {F : Addr → Prop} {S : Store} {H : Hp} : ∀ {xs : List D} {vs : List V} (n : Nat), RepDs K F S H xs vs → RepDs K F S H (xs.eraseIdx n) (vs.eraseIdx n)
  | [], _, _, h => by cases h; rfl
  | x :: xs, _, 0, ⟨v, r, e, h1, h2⟩ => by subst e; exact h2
  | x :: xs, _, n + 1, ⟨v, r, e, h1, h2⟩ => by subst e; exact ⟨v, _, rfl, h1, RepDs.erase n h2⟩
theorem sm_popAt {K : PySem.W.Frag} : SndM K rPopAt fPopAt := fun {F S H x xs a as Q Q'} ok r1 rs hf post => by
  unfold fPopAt at hf
  split at hf
  · rename_i l i
    split at hf
    · rename_i ys e
      obtain ⟨hb, hf⟩ := hf
      split at hf
      · rename_i k ek
        split at hf
        · rename_i d ed
          obtain ⟨v, rfl, r⟩ := one_rep rs
          cases r
          obtain ⟨_, vs, hv, rr⟩ := ok.cells l _ e
          obtain ⟨u, hu, ru⟩ := rr.get ed
          have f : Fr S H (sset S l (.lst (ys.eraseIdx k))) (upd H l (.lst (vs.eraseIdx k))) := Fr.chg e
          exact ⟨l, vs, i, k, u, r1, rfl, hv, hb.1, hb.2, by rw [← rr.length]; exact ek, hu, post _ _ d _ (ok.chg (c' := .lst (ys.eraseIdx k)) e ⟨_, upd_same, RepDs.mv f.mv _ _ (RepDs.erase k rr)⟩) f (RepD.mv f.mv _ _ ru) hf⟩
        · exact hf.elim
      · exact hf.elim
    · exact hf.elim
  · exact hf.elim
theorem de_popAt {o : Expr} {wo : WE} {apos cpos : Pos} (ho : DE X G o wo) (ha : DA X G [e] wr) (hbase : attributeBase o "pop" X.env (eval o X.env) = eval o X.env := by rfl)
    (hfew : ((backTo cpos (starEach [e] X.env)).all (fun x => !x.1) && (backToKw cpos (keywordEach [] X.env)).all (fun x => x.1.isSome)
      && decide ([e].length + ([] : List Keyword).length + (if ([] : List Keyword).isEmpty then 0 else 1) < 30)) = true := by rfl)
    (hline : (apos.endLine == cpos.line) = true := by rfl) (hs : starEach [e] X.env = (false, eval e X.env) :: starEach [] X.env := by rfl) (hplain : (backTo cpos (starEach [] X.env)).any (·.1) = false := by rfl) : DE X G (.Call (.Attribute o "pop" apos) [e] [] cpos) (wBM "list" fPopAt wo wr) :=
  de_bm PySem.F.plainAttrs_list PySem.F.slot_list_pop PySem.F.type_list_pop mt_popAt sm_popAt ho ha hbase hfew hline hs hplain
/-- xs + ys -/
def fAddL (x y : D) (S : Store) (Q : PQ) : Prop := match lstOf S x, lstOf S y with
  | some xs, some ys => xs.length + ys.length ≤ sizeLine ∧ Q (.lst (xs ++ ys)) S
  | _, _ => False
/-! ### isinstance -/
def tyName (S : Store) : D → Option String
  | .non => some "NoneType"
  | .bl _ => some "bool"
  | .int _ => some "int"
  | .str _ => some "str"
  | .lst _ => some "list"
  | .fro _ => some "list"
  | .tup _ => some "tuple"
  | .dT _ _ => some "dict"
  | .dK _ _ => some "dict"
  | .cel a => match S a with
    | some (.lst _) => some "list"
    | some (.dT _ _) => some "dict"
    | some (.dK _ _) => some "dict"
    | _ => none
  | _ => none
theorem tyName_rep {K : PySem.W.Frag} {F : Addr → Prop} {S : Store} {H : Hp} {d : D} {v : V} {T : String} (ok : Ok K F S H) (r : RepD K F S H d v) (h : tyName S d = some T) : TyX K H v (.type T) := by
  cases d <;> simp only [tyName, Option.some.injEq, reduceCtorEq] at h
  · subst h; cases r; exact .base .non
  · subst h; cases r; exact .base (.bl _)
  · subst h; cases r; exact .base (.int _)
  · subst h; cases r; exact .base (.str _)
  · rename_i a
    cases r
    split at h
    · rename_i xs e
      cases h
      obtain ⟨_, vs, hv, _⟩ := ok.cells a _ e
      exact .base (.lst hv)
    · rename_i ks xs e
      cases h
      obtain ⟨_, vs, hv, _⟩ := ok.cells a _ e
      exact .base (.dT hv)
    · rename_i ks xs e
      cases h
      obtain ⟨_, vs, hv, _⟩ := ok.cells a _ e
      exact .base (.dK hv)
    · cases h
  · subst h
    obtain ⟨a, vs, rfl, hl, _⟩ := r
    exact .base (.lst hl.2.2)
  · subst h
    obtain ⟨a, vs, rfl, hl, _⟩ := r
    rcases hl with ⟨_, _, hv | ⟨o, hv⟩⟩ | ⟨o, its, n, hk, hc, _⟩
    · exact .base (.tup hv)
    · exact .fTuple hv
    · exact .kTuple hk hc
  · subst h
    obtain ⟨a, vs, rfl, hl, _⟩ := r
    rcases hl with ⟨_, _, hv | ⟨o, hv⟩⟩ | ⟨o, its, n, hk, hc, _⟩
    · exact .base (.lst hv)
    · exact .base (.frz hv)
    · exact .kList hk hc
  · subst h
    obtain ⟨a, vs, rfl, ⟨_, _, hv⟩, _⟩ := r
    exact .base (.dT hv)
  · subst h
    obtain ⟨a, vs, rfl, ⟨_, _, hv⟩, _⟩ := r
    exact .base (.dK hv)
def fIsi (n : String) (x : D) (S : Store) (Q : PQ) : Prop := match tyName S x with
  | some t => match kitB t n with
    | some b => Q (.bl b) S
    | none => False
  | none => False
def wIsi (n : String) (wa : WE) : WE := fun env S Q => wa env S fun x S1 => fIsi n x S1 Q
theorem de_isi {x : Str} {p px : Pos} {n : String} (hm : X.mg "isinstance" = none) (ha : DE X G e wa) (hmx : X.mg x = none) (hv : bootBuiltins x = some (.type n) := by decide +kernel) (hg : Gl X "isinstance" := by rfl) (hgx : Gl X x := by rfl) (hn : x ≠ "__name__" := by decide) (hd : (x == ("__debug__" : Str)) = false := by decide)
    (he : starEach [e, .Name x px] X.env = (false, eval e X.env) :: starEach [.Name x px] X.env := by rfl) (he2 : starEach [.Name x px] X.env = (false, eval (.Name x px) X.env) :: starEach [] X.env := by rfl) (hpl : (backTo pos (starEach [.Name x px] X.env)).any (·.1) = false := by rfl) :
    DE X G (.Call (.Name "isinstance" p) [e, .Name x px] [] pos) (wIsi n wa) := by
  obtain ⟨t, pe, se⟩ := ha
  refine ⟨_, pe_callB call_isi hg hm (by decide +kernel) (pa_cons pe (pa_cons (pe_bltn (v := .ty n) hgx hmx hv rfl hn hd) pa_nil he2) he) (by decide) (by decide) he hpl, fun {F S H env σ Q Q'} at_ hw post => se at_ hw fun v H1 d S1 ok1 f1 r1 q1 => ?_⟩
  unfold fIsi at q1
  split at q1
  · rename_i T eT
    split at q1
    · rename_i k ek
      exact ⟨v, .ty n, .type T, .type n, k, rfl, .ty n, tyName_rep ok1 r1 eT, kit_ty ek, (post.fr f1).here ok1 (d := .bl k) rfl q1⟩
    · exact q1.elim
  · exact q1.elim
def fIsi2 (n m : String) (x : D) (S : Store) (Q : PQ) : Prop := match tyName S x with
  | some t => match kitB t n, kitB t m with
    | some b, some c => Q (.bl (b || c)) S
    | _, _ => False
  | none => False
def wIsi2 (n m : String) (wa : WE) : WE := fun env S Q => wa env S fun x S1 => fIsi2 n m x S1 Q
theorem de_isi2 {x y : Str} {p px py pt : Pos} {x1} {n m : String} (hm : X.mg "isinstance" = none) (ha : DE X G e wa) (hmx : X.mg x = none) (hmy : X.mg y = none) (hv : bootBuiltins x = some (.type n) := by decide +kernel) (hvy : bootBuiltins y = some (.type m) := by decide +kernel) (hg : Gl X "isinstance" := by rfl) (hgx : Gl X x := by rfl) (hgy : Gl X y := by rfl) (hn : x ≠ "__name__" := by decide) (hd : (x == ("__debug__" : Str)) = false := by decide) (hny : y ≠ "__name__" := by decide) (hdy : (y == ("__debug__" : Str)) = false := by decide)
    (he : starEach [e, .Tuple [.Name x px, .Name y py] x1 pt] X.env = (false, eval e X.env) :: starEach [.Tuple [.Name x px, .Name y py] x1 pt] X.env := by rfl) (he2 : starEach [.Tuple [.Name x px, .Name y py] x1 pt] X.env = (false, eval (.Tuple [.Name x px, .Name y py] x1 pt) X.env) :: starEach [] X.env := by rfl) (hpl : (backTo pos (starEach [.Tuple [.Name x px, .Name y py] x1 pt] X.env)).any (·.1) = false := by rfl)
    (hs1 : starEach [.Name x px, .Name y py] X.env = (false, eval (.Name x px) X.env) :: starEach [.Name y py] X.env := by rfl) (hs2 : starEach [.Name y py] X.env = (false, eval (.Name y py) X.env) :: starEach [] X.env := by rfl) :
    DE X G (.Call (.Name "isinstance" p) [e, .Tuple [.Name x px, .Name y py] x1 pt] [] pos) (wIsi2 n m wa) := by
  obtain ⟨t, pe, se⟩ := ha
  refine ⟨_, pe_callB call_isiT hg hm (by decide +kernel) (pa_cons pe (pa_cons (pe_tup (pa_cons (pe_bltn (v := .ty n) hgx hmx hv rfl hn hd) (pa_cons (pe_bltn (v := .ty m) hgy hmy hvy rfl hny hdy) pa_nil hs2) hs1)) pa_nil he2) he) (by decide) (by decide) he hpl, fun {F S H env σ Q Q'} at_ hw post => se at_ hw fun v H1 d S1 ok1 f1 r1 q1 => ?_⟩
  unfold fIsi2 at q1
  split at q1
  · rename_i T eT
    split at q1
    · rename_i k l ek el
      refine ⟨by show 2 ≤ sizeLine; decide, fun q hq => ?_⟩
      have f2 : Fr S1 H1 S1 (upd H1 q (.tup [V.ty n, V.ty m])) := Fr.new ok1 hq
      refine ⟨v, q, [.ty n, .ty m], .type T, [.type n, .type m], k || l, rfl, upd_same, .cons (.ty n) (.cons (.ty m) .nil), tyName_rep (ok1.new hq) (RepD.mv f2.mv _ _ r1) eT, ?_, post _ _ (.bl (k || l)) S1 (ok1.new hq) (f1.trans f2) rfl q1⟩
      exact kitAny_cons (kit_ty ek) (fun z => by
        subst z
        exact kitAny_cons (kit_ty el) (fun z => by subst z; exact kitAny_nil) fun z => by subst z; rfl) fun z => by subst z; rfl
    · exact q1.elim
  · exact q1.elim
end
end Pz

set_option Elab.async false
set_option linter.all false
set_option maxRecDepth 100000
set_option maxHeartbeats 4000000
/-! pure helpers -/
namespace Pz
open PySem PySem.Spec PyProof.Rows L2
theorem fIxL_to {x : D} {xs : List D} {i : Int} {d : D} {S : Store} {Q : PQ} (h : lstOf S x = some xs) (ha : atD xs i = some d) (q : Q d S) : fIxL x (.int i) S Q := by
  simp only [fIxL, h, ha]; exact q
theorem lstOf_cel {S : Store} {a : Addr} {xs : List D} (h : S a = some (.lst xs)) : lstOf S (.cel a) = some xs := by simp only [lstOf, h]
theorem seqOf_cel {S : Store} {a : Addr} {xs : List D} (h : S a = some (.lst xs)) : seqOf S (.cel a) = some xs := by simp only [seqOf, h]
theorem fSetL_to {a : Addr} {xs : List D} {k : Int} {j : Nat} {v : D} {S : Store} {Q : Store → Prop} (h : S a = some (.lst xs)) (hj : ixN xs.length k = some j) (q : Q (sset S a (.lst (xs.set j v)))) : fSetL (.cel a) (.int k) v S Q := by
  simp only [fSetL, h, hj]; exact q
theorem atD_nat {xs : List D} {i : Nat} {d : D} (h : xs[i]? = some d) : atD xs (i : Int) = some d := by
  unfold atD ixN
  have hi : i < xs.length := (List.getElem?_eq_some_iff.mp h).1
  rw [if_pos (Int.natCast_nonneg i), if_pos (by exact_mod_cast hi)]
  exact h
theorem fLenL_to {d : D} {ys : List D} {S : Store} {Q : PQ} (h : seqOf S d = some ys) (q : Q (.int ys.length) S) : fLenL [d] S Q := by
  simp only [fLenL, h]; exact q
/-- a statement and the rest, what holds between said by itself -/
def wCut (w1 w2 : WS) : WS := fun P env S => ∃ I : En → Store → Prop, w1 { P with nx := I } env S ∧ ∀ env' S', I env' S' → w2 P env' S'
theorem dss_cut {X : Cx} {G : Gd} {st : Stmt} {rest : List Stmt} {w1 w2 : WS} (h1 : DS X G st w1) (h2 : DSs X G rest w2) : DSs X G (st :: rest) (wCut w1 w2) := let ⟨_, p1, s1⟩ := h1; let ⟨_, p2, s2⟩ := h2; ⟨_, pss_cons p1 p2, fun at_ ⟨I, hw, hr⟩ e => s1 at_ hw ⟨fun a f q => s2 a (hr _ _ q) (e.fr f), e.rt, e.bk, e.ct⟩⟩
theorem s_seq {w1 w2 : WS} {P : PEnds} {env : En} {S : Store} (h : w1 { P with nx := w2 P } env S) : wSeq w1 w2 P env S := h
theorem ixN_nat {n i : Nat} (h : i < n) : ixN n (i : Int) = some i := by
  unfold ixN
  rw [if_pos (Int.natCast_nonneg i), if_pos (by exact_mod_cast h)]
  rfl
/-! ### a law's box of draws -/
def BoxC (c : Cell) : Prop := ∃ (ns : List Int) (i r s : Int), c = .lst [.lst (ns.map .int), .int i, .int r, .int s] ∧ 0 ≤ i
def Box (S : Store) (b : Addr) : Prop := ∃ c, S b = some c ∧ BoxC c
def SB (b : Addr) (S S' : Store) : Prop := ∀ a, a ≠ b → S' a = S a
theorem SB.refl (b : Addr) (S : Store) : SB b S S := fun _ _ => rfl
theorem SB.trans {b : Addr} {S S1 S2 : Store} (h : SB b S S1) (g : SB b S1 S2) : SB b S S2 := fun a ha => (g a ha).trans (h a ha)
theorem SB.set (b : Addr) (S : Store) (c : Cell) : SB b S (sset S b c) := fun _ ha => sset_ne ha
def pTake : PSpec := fun ds S Q => ∃ (b : Addr) (m : Int), ds = [.cel b, .int m] ∧ Box S b ∧ 0 < m ∧ m < 1073741824 ∧ ∀ (r : Int) S', 0 ≤ r → r < m → Box S' b → SB b S S' → Q (.int r) S'
def pBox : PSpec := fun ds S Q => ∃ ns : List Int, ds = [.fro (ns.map .int)] ∧ ns.length ≤ 63 ∧ ∀ b S', S b = none → Box S' b → SB b S S' → Q (.cel b) S'
end Pz

set_option Elab.async false
set_option linter.all false
set_option maxRecDepth 100000
set_option maxHeartbeats 4000000
/-! more pure helpers; a law's own look whether two things are the same -/
namespace Pz
open PySem PySem.Spec PyProof.Rows L2
theorem lc_map {α : Type} {ys : List α} {mk : α → D} {S1 : Store} {Q : PQ} {we : WE} {j : Nat} {vs : List Nat} {env : En} (f : α → D) (hl : ys.length ≤ sizeLine)
    (hs : ∀ y, y ∈ ys → ∀ R : PQ, R (f y) S1 → we ((wipeD env vs).set j (some (mk y))) S1 R) (hQ : Q (.lst (ys.map f)) S1) : LcGo (gwName j) wYes we vs env Q (ys.map mk) S1 := by
  refine ⟨fun i acc S => S = S1 ∧ acc = (ys.take i).map f, ⟨rfl, rfl⟩, ?_⟩
  rintro i acc S ⟨rfl, rfl⟩
  rw [List.getElem?_map]
  cases e : ys[i]? with
  | none =>
    have h := List.getElem?_eq_none_iff.mp e
    show Q (.lst ((ys.take i).map f)) S
    rw [List.take_of_length_le h]
    exact hQ
  | some x =>
    have hi := (List.getElem?_eq_some_iff.mp e).1
    refine hs x (List.mem_of_getElem? e) _ ⟨?_, rfl, ?_⟩
    · rw [List.length_map, List.length_take]; omega
    · rw [List.take_add_one, e, List.map_append]; rfl
/-- the same with the store turning -/
theorem lc_run {α : Type} {ys : List α} {mk : α → D} {S1 : Store} {Q : PQ} {we : WE} {j : Nat} {vs : List Nat} {env : En} (J : Nat → List D → Store → Prop) (hl : ys.length ≤ sizeLine) (h0 : J 0 [] S1)
    (hs : ∀ i y acc S', ys[i]? = some y → acc.length = i → J i acc S' → ∀ R : PQ, (∀ d S2, J (i + 1) (acc ++ [d]) S2 → R d S2) → we ((wipeD env vs).set j (some (mk y))) S' R) (hQ : ∀ acc S', acc.length = ys.length → J ys.length acc S' → Q (.lst acc) S') : LcGo (gwName j) wYes we vs env Q (ys.map mk) S1 := by
  refine ⟨fun i acc S => J i acc S ∧ acc.length = i ∧ i ≤ ys.length, ⟨h0, rfl, Nat.zero_le _⟩, ?_⟩
  rintro i acc S ⟨hJ, hl', hle⟩
  rw [List.getElem?_map]
  cases e : ys[i]? with
  | none =>
    have h := List.getElem?_eq_none_iff.mp e
    have ei : i = ys.length := by omega
    exact hQ acc S (by omega) (by rw [← ei]; exact hJ)
  | some x =>
    have hi := (List.getElem?_eq_some_iff.mp e).1
    exact hs i x acc S e hl' hJ _ fun y S' h => ⟨by omega, h, by rw [List.length_append, hl']; rfl, hi⟩
theorem sizeLine_big : 100000 ≤ sizeLine := by decide
/-! ### x[i] of a list or a tuple -/
def fIxQ (x y : D) (S : Store) (Q : PQ) : Prop := match seqOf S x, y with
  | some xs, .int i => match atD xs i with
    | some d => Q d S
    | none => False
  | _, _ => False
theorem sr_ixQ {K : PySem.W.Frag} : SndR K (rIx K) fIxQ := fun {F S H x y a b Q Q'} ok r1 r2 hf post => by
  unfold fIxQ at hf
  split at hf
  · rename_i xs i e
    split at hf
    · rename_i d ed
      obtain ⟨p, vs, rfl, hs, rs⟩ := seq_of ok r1 e
      obtain ⟨v, h1, h2⟩ := at_rep rs ed
      rcases hs with hs | hs
      · exact .inl ⟨p, vs, i, v, rfl, r2, hs, h1, post.here ok h2 hf⟩
      · exact .inr (.inl ⟨p, vs, i, v, rfl, r2, hs, h1, post.here ok h2 hf⟩)
    · exact hf.elim
  · exact hf.elim
theorem de_ixQ {X : Cx} {G : Gd} {a b : Expr} {wa wb : WE} {pos : Pos} (ha : DE X G a wa) (hb : DE X G b wb) (hs : PlainIx b := by exact fun _ _ => rfl) : DE X G (.Subscript a b pos) (wOp fIxQ wa wb) := de_ix ix_seq sr_ixQ ha hb hs
theorem fIxQ_to {x : D} {xs : List D} {i : Int} {d : D} {S : Store} {Q : PQ} (h : seqOf S x = some xs) (ha : atD xs i = some d) (q : Q d S) : fIxQ x (.int i) S Q := by
  simp only [fIxQ, h, ha]; exact q
theorem kt_NoneType_list : kitB "NoneType" "list" = some false := by decide +kernel
theorem kt_NoneType_tuple : kitB "NoneType" "tuple" = some false := by decide +kernel
theorem kt_NoneType_bool : kitB "NoneType" "bool" = some false := by decide +kernel
theorem kt_NoneType_int : kitB "NoneType" "int" = some false := by decide +kernel
theorem kt_NoneType_str : kitB "NoneType" "str" = some false := by decide +kernel
theorem kt_bool_list : kitB "bool" "list" = some false := by decide +kernel
theorem kt_bool_tuple : kitB "bool" "tuple" = some false := by decide +kernel
theorem kt_bool_bool : kitB "bool" "bool" = some true := by decide +kernel
theorem kt_bool_int : kitB "bool" "int" = some true := by decide +kernel
theorem kt_bool_str : kitB "bool" "str" = some false := by decide +kernel
theorem kt_int_list : kitB "int" "list" = some false := by decide +kernel
theorem kt_int_tuple : kitB "int" "tuple" = some false := by decide +kernel
theorem kt_int_bool : kitB "int" "bool" = some false := by decide +kernel
theorem kt_int_int : kitB "int" "int" = some true := by decide +kernel
theorem kt_int_str : kitB "int" "str" = some false := by decide +kernel
theorem kt_str_list : kitB "str" "list" = some false := by decide +kernel
theorem kt_str_tuple : kitB "str" "tuple" = some false := by decide +kernel
theorem kt_str_bool : kitB "str" "bool" = some false := by decide +kernel
theorem kt_str_int : kitB "str" "int" = some false := by decide +kernel
theorem kt_str_str : kitB "str" "str" = some true := by decide +kernel
theorem kt_list_list : kitB "list" "list" = some true := by decide +kernel
theorem kt_list_tuple : kitB "list" "tuple" = some false := by decide +kernel
theorem kt_list_bool : kitB "list" "bool" = some false := by decide +kernel
theorem kt_list_int : kitB "list" "int" = some false := by decide +kernel
theorem kt_list_str : kitB "list" "str" = some false := by decide +kernel
theorem kt_tuple_list : kitB "tuple" "list" = some false := by decide +kernel
theorem kt_tuple_tuple : kitB "tuple" "tuple" = some true := by decide +kernel
theorem kt_tuple_bool : kitB "tuple" "bool" = some false := by decide +kernel
theorem kt_tuple_int : kitB "tuple" "int" = some false := by decide +kernel
theorem kt_tuple_str : kitB "tuple" "str" = some false := by decide +kernel
/-! ### sameness -/
def isSc : D → Bool
  | .non => true
  | .bl _ => true
  | .int _ => true
  | .str _ => true
  | _ => false
def sameSc : D → D → Bool
  | .non, .non => true
  | .bl a, .bl b => decide (a = b)
  | .int a, .int b => decide (a = b)
  | .str a, .str b => decide (a = b)
  | _, _ => false
mutual
def sameD : D → D → Bool
  | .lst xs, .lst ys => decide (xs.length = ys.length) && sameDs xs ys
  | .tup xs, .tup ys => decide (xs.length = ys.length) && sameDs xs ys
  | .non, .non => true
  | .bl a, .bl b => decide (a = b)
  | .int a, .int b => decide (a = b)
  | .str a, .str b => decide (a = b)
  | _, _ => false
def sameDs : List D → List D → Bool
  | x :: xs, y :: ys => sameD x y && sameDs xs ys
  | _, _ => true
end
/-- things that the look takes, so deep at most -/
inductive OkS : Nat → D → D → Prop
  | sc {n : Nat} {x y : D} : isSc x = true → isSc y = true → OkS (n + 1) x y
  | lst {n : Nat} {xs ys : List D} : ys.length ≤ 100000 → (∀ (i : Nat) x y, xs[i]? = some x → ys[i]? = some y → OkS n x y) → OkS (n + 1) (.lst xs) (.lst ys)
  | tup {n : Nat} {xs ys : List D} : ys.length ≤ 100000 → (∀ (i : Nat) x y, xs[i]? = some x → ys[i]? = some y → OkS n x y) → OkS (n + 1) (.tup xs) (.tup ys)
def pSame (n : Nat) : PSpec := fun ds S Q => ∃ x y, ds = [x, y] ∧ OkS n x y ∧ Q (.bl (sameD x y)) S
theorem sameDs_all : ∀ (xs ys : List D), xs.length = ys.length → sameDs xs ys = ((List.range ys.length).map fun k => match xs[k]?, ys[k]? with | some x, some y => sameD x y | _, _ => true).all id
  | [], [], _ => rfl
  | x :: xs, y :: ys, h => by
    have ih := sameDs_all xs ys (by simpa using h)
    show (sameD x y && sameDs xs ys) = _
    rw [ih, List.length_cons, List.range_succ_eq_map, List.map_cons, List.map_map]
    rfl
  | [], _ :: _, h => by simp at h
  | _ :: _, [], h => by simp at h

/-! ### names -/
def letters : List Nat := ("abcdefghijklmnopqrstuvwxyz" : Str).cps.toList
def isName (z : Str) : Bool := (decide (1 ≤ (z.length : Int)) && decide ((z.length : Int) ≤ 8)) && z.cps.toList.all fun c => decide (c ∈ letters)
theorem len_codes (z : Str) : z.cps.toList.length = z.length := by simp [Str.length]
/-- 1 <= len(x) <= 8 and all([sign in LETTERS for sign in x]) -/
theorem isname_w {env : En} {S : Store} {Q : PQ} {i j : Nat} {z : Str} (hz : env[i]? = some (some (.str z))) (hij : i ≠ j) (hj : j < env.length) (hl : z.length ≤ sizeLine) (q : Q (.bl (isName z)) S) :
    wAndV (wChain fLe fLe (wC (.int 1)) (wCB fLenS (wCons (wVar i) wNil)) (wC (.int 8))) (wCB fAll (wCons (wLc (wiS (wVar i)) (gwName j) wYes (wOp fInS (wVar j) (wC (.str "abcdefghijklmnopqrstuvwxyz"))) [j]) wNil)) env S Q := by
  have rest : Q (.bl (z.cps.toList.all fun c => decide (c ∈ letters))) S → wCB fAll (wCons (wLc (wiS (wVar i)) (gwName j) wYes (wOp fInS (wVar j) (wC (.str "abcdefghijklmnopqrstuvwxyz"))) [j]) wNil) env S Q := by
    intro q
    simp only [wCB, wCons, wNil, wLc, wiS, wVar, hz]
    refine lc_map (ys := z.cps.toList) (mk := fun c => D.str ⟨#[c]⟩) (fun c => D.bl (decide (c ∈ letters))) (by rw [len_codes]; exact hl) (fun c _ R r => ?_) ?_
    · have e : ((wipeD env [j]).set j (some (D.str ⟨#[c]⟩)))[j]? = some (some (D.str ⟨#[c]⟩)) := List.getElem?_set_self (by simp [wipeD]; exact hj)
      simp only [wOp, wVar, e, wC, fInS]
      exact ⟨c, rfl, r⟩
    · have e : z.cps.toList.map (fun c => D.bl (decide (c ∈ letters))) = (z.cps.toList.map fun c => decide (c ∈ letters)).map D.bl := by rw [List.map_map]; rfl
      rw [e]
      simp only [fAll, lstOf, blsOf_map, List.all_map]
      exact q
  simp only [wAndV, wChain, wC, wCB, wCons, wNil, wVar, hz, fLenS, fLe, fI0]
  have c1 : (1 : Int) ≤ (z.length : Int) ∨ ¬ (1 : Int) ≤ (z.length : Int) := by omega
  have c2 : (z.length : Int) ≤ 8 ∨ ¬ (z.length : Int) ≤ 8 := by omega
  unfold isName at q
  refine ⟨hl, ?_⟩
  rcases c1 with c1 | c1
  · simp only [c1, decide_true, Bool.true_and] at q ⊢
    rcases c2 with c2 | c2
    · simp only [c2, decide_true, Bool.true_and] at q ⊢
      exact rest q
    · simp only [c2, decide_false, Bool.false_and] at q ⊢
      exact q
  · simp only [c1, decide_false, Bool.false_and] at q ⊢
    exact q
theorem atD_mem {xs : List D} {r : Int} (h0 : 0 ≤ r) (h1 : r < (xs.length : Int)) : ∃ d, atD xs r = some d ∧ d ∈ xs := by
  obtain ⟨j, rfl⟩ : ∃ j : Nat, r = (j : Int) := ⟨r.toNat, by omega⟩
  have hj : j < xs.length := by omega
  exact ⟨xs[j], atD_nat (List.getElem?_eq_getElem hj), List.getElem_mem hj⟩
theorem rangeD_eq (lo : Int) (n : Nat) : rangeD lo n = (List.range n).map fun k => D.int (lo + (k : Nat)) := rfl
theorem for_go {g : WG} {w : WS} {P : PEnds} {env : En} {xs : List D} {S1 : Store} (J : Nat → En → Store → Prop) (h0 : J 0 env S1) (hs : ∀ i x env S, xs[i]? = some x → J i env S → g x env S fun env2 S2 => w { P with nx := J (i + 1), ct := J (i + 1), bk := P.nx } env2 S2)
    (hn : ∀ i env S, xs[i]? = none → J i env S → P.nx env S) : ForGo g w P env xs S1 := by
  refine ⟨J, h0, fun i env S h => ?_⟩
  cases e : xs[i]? with
  | none => exact hn i env S e h
  | some x => exact hs i x env S e h
def pIsName : PSpec := fun ds S Q => ∃ z : Str, ds = [.str z] ∧ z.length ≤ sizeLine ∧ Q (.bl (isName z)) S
end Pz

set_option Elab.async false
set_option linter.all false
set_option maxRecDepth 100000
set_option maxHeartbeats 4000000
/-! texts in the pure layer -/
namespace Pz
open PySem PySem.Spec PyProof.Rows L2
theorem atI_mem {α : Type} {xs : List α} {r : Int} (h0 : 0 ≤ r) (h1 : r < (xs.length : Int)) : ∃ d, atI xs r = some d ∧ d ∈ xs := by
  obtain ⟨j, rfl⟩ : ∃ j : Nat, r = (j : Int) := ⟨r.toNat, by omega⟩
  have hj : j < xs.length := by omega
  refine ⟨xs[j], ?_, List.getElem_mem hj⟩
  unfold atI
  rw [ixN_nat hj]
  exact List.getElem?_eq_getElem hj
theorem fIxS_to {z : Str} {i : Int} {c : Nat} {S : Store} {Q : PQ} (hl : z.length ≤ sizeLine) (h : atI z.cps.toList i = some c) (q : Q (.str ⟨#[c]⟩) S) : fIxS (.str z) (.int i) S Q := by
  simp only [fIxS, h]; exact ⟨hl, q⟩
theorem fIxT_to {xs : List D} {i : Int} {d : D} {S : Store} {Q : PQ} (ha : atD xs i = some d) (q : Q d S) : fIxT (.tup xs) (.int i) S Q := by
  simp only [fIxT, ha]; exact q
theorem fAddS_to {x y : Str} {S : Store} {Q : PQ} (hl : x.length + y.length ≤ sizeLine) (q : Q (.str (x ++ y)) S) : fAddS (.str x) (.str y) S Q := ⟨hl, q⟩
theorem fSlS_to {z : Str} {lo hi : Option Int} {S : Store} {Q : PQ} (hl : z.length ≤ sizeLine) (q : Q (.str (cutS z lo hi)) S) : fSlS (.str z) lo hi S Q := ⟨hl, q⟩
theorem codes_app (x y : Str) : (x ++ y).cps.toList = x.cps.toList ++ y.cps.toList := by rw [PySem.Str.cps_append, Array.toList_append]
theorem len_app (x y : Str) : (x ++ y).length = x.length + y.length := by rw [← len_codes, codes_app, List.length_append, len_codes, len_codes]
theorem codes_cut (z : Str) (lo hi : Option Int) : (cutS z lo hi).cps.toList = (z.cps.toList.drop (HT.sIx z.length 0 lo)).take (HT.sIx z.length z.length hi - HT.sIx z.length 0 lo) := by unfold cutS; simp
theorem len_cut (z : Str) (lo hi : Option Int) : (cutS z lo hi).length ≤ z.length := by
  rw [← len_codes, codes_cut, List.length_take, List.length_drop, len_codes]; omega
theorem cut_to (z : Str) (k : Nat) : (cutS z none (some (k : Int))).cps.toList = z.cps.toList.take k := by
  rw [codes_cut, HT.sIx_none, HT.sIx_nat, List.drop_zero, Nat.sub_zero]
  rw [← len_codes]
  exact List.take_eq_take_iff.mpr (by omega)
theorem cut_from (z : Str) (k : Nat) : (cutS z (some (k : Int)) none).cps.toList = z.cps.toList.drop k := by
  rw [codes_cut, HT.sIx_none, HT.sIx_nat, ← len_codes]
  rw [List.take_of_length_le (by rw [List.length_drop]; omega)]
  by_cases h : k ≤ z.cps.toList.length
  · rw [Nat.min_eq_left h]
  · rw [Nat.min_eq_right (by omega), List.drop_eq_nil_of_le (Nat.le_refl _), List.drop_eq_nil_of_le (by omega)]
theorem len_one (c : Nat) : (⟨#[c]⟩ : Str).length = 1 := rfl
theorem codes_one (c : Nat) : (⟨#[c]⟩ : Str).cps.toList = [c] := rfl
theorem glue_none : ∀ (ps : List Str) (a : Array Nat), (ps.foldl (fun acc p => acc ++ (#[] : Array Nat) ++ p.cps) a).toList = a.toList ++ (ps.map (·.cps.toList)).flatten
  | [], a => by simp
  | p :: ps, a => by
    rw [List.foldl_cons, glue_none ps]
    simp
theorem codes_join (ps : List Str) : (Txt.join "" ps).cps.toList = (ps.map (·.cps.toList)).flatten := by
  show ((ps.drop 1).foldl (fun acc p => acc ++ ("" : Str).cps ++ p.cps) (ps.headD Str.empty).cps).toList = _
  have e : ("" : Str).cps = #[] := rfl
  rw [e, glue_none]
  cases ps with
  | nil => rfl
  | cons p ps => simp
theorem codes_join_ones (cs : List Nat) : (Txt.join "" (cs.map fun c => (⟨#[c]⟩ : Str))).cps.toList = cs := by
  rw [codes_join, List.map_map]
  induction cs with
  | nil => rfl
  | cons c cs ih => simpa using ih
theorem sum_ones : ∀ cs : List Nat, (cs.map ((fun x : Str => x.length) ∘ fun c => (⟨#[c]⟩ : Str))).sum = cs.length
  | [] => rfl
  | c :: cs => by rw [List.map_cons, List.sum_cons, sum_ones cs, List.length_cons]; show 1 + cs.length = _; omega
theorem isName_of {z : Str} (h1 : 1 ≤ z.cps.toList.length) (h2 : z.cps.toList.length ≤ 8) (h3 : ∀ c ∈ z.cps.toList, c ∈ letters) : isName z = true := by
  rw [len_codes] at h1 h2
  unfold isName
  rw [decide_eq_true (by omega), decide_eq_true (by omega), Bool.true_and, Bool.true_and, List.all_eq_true]
  exact fun c hc => decide_eq_true (h3 c hc)
theorem isName_len {z : Str} (h : isName z = true) : 1 ≤ z.length ∧ z.length ≤ 8 := by
  unfold isName at h
  rw [Bool.and_eq_true, Bool.and_eq_true] at h
  have h1 := of_decide_eq_true h.1.1
  have h2 := of_decide_eq_true h.1.2
  omega
theorem isName_codes {z : Str} (h : isName z = true) : ∀ c ∈ z.cps.toList, c ∈ letters := by
  unfold isName at h
  rw [Bool.and_eq_true, List.all_eq_true] at h
  exact fun c hc => of_decide_eq_true (h.2 c hc)
theorem letters_len : letters.length = 26 := by decide +kernel
theorem alpha_len : ("abcdefghijklmnopqrstuvwxyz" : Str).length ≤ sizeLine := by decide +kernel
def pNames : PSpec := fun ds S Q => ∃ (b : Addr) (m : Int), ds = [.cel b, .int m] ∧ Box S b ∧ 0 ≤ m ∧ m ≤ 26 ∧ ∀ (ys : List Str) S', ys.length = m.toNat → (∀ y ∈ ys, isName y = true) → Box S' b → SB b S S' → Q (.lst (ys.map .str)) S'
end Pz

set_option Elab.async false
set_option linter.all false
set_option maxRecDepth 100000
set_option maxHeartbeats 4000000
/-! further rules: lists, tuples, f-strings, equality of data, tables -/
namespace Pz
open PySem PySem.Spec PyProof.Rows L2
section
variable {X : Cx} {G : Gd} {a b c e : Expr} {es : List Expr} {wa wb wc : WE} {pos : Pos} {wt wu : WT} {wr : WA}
/-- the items of a list that may be put together with others -/
def lstX (S : Store) : D → Option (List D)
  | .lst xs => some xs
  | .cel a => match S a with
    | some (.lst xs) => some xs
    | _ => none
  | _ => none
theorem lst_ex {K : PySem.W.Frag} {F : Addr → Prop} {S : Store} {H : Hp} {d : D} {v : V} {xs : List D} (ok : Ok K F S H) (r : RepD K F S H d v) (h : lstX S d = some xs) : ∃ a vs, v = .ref a ∧ H a = some (.lst vs) ∧ RepDs K F S H xs vs := by
  cases d <;> simp only [lstX, reduceCtorEq] at h
  · rename_i a
    split at h
    · rename_i ys e
      cases h
      obtain ⟨_, vs, hv, rs⟩ := ok.cells a _ e
      exact ⟨a, vs, r, hv, rs⟩
    · cases h
  · cases h
    obtain ⟨a, vs, e, hl, rs⟩ := r
    exact ⟨a, vs, e, hl.2.2, rs⟩
def fCat (x y : D) (S : Store) (Q : PQ) : Prop := match lstX S x, lstX S y with
  | some xs, some ys => xs.length + ys.length ≤ sizeLine ∧ Q (.lst (xs ++ ys)) S
  | _, _ => False
theorem de_addL (ha : DE X G a wa) (hb : DE X G b wb) : DE X G (.BinOp a .Add b pos) (wOp fCat wa wb) := de_op op_cat (fun {F S H x y a b Q Q'} ok r1 r2 hf post => by
  unfold fCat at hf
  split at hf
  · rename_i xs ys e1 e2
    obtain ⟨p, vs, rfl, hv, rs⟩ := lst_ex ok r1 e1
    obtain ⟨q, us, rfl, hu, rt⟩ := lst_ex ok r2 e2
    exact ⟨p, q, vs, us, rfl, rfl, hv, hu, by rw [← rs.length, ← rt.length]; exact hf.1, fun l hl => post.newL ok (RepDs.append rs rt) hf.2 hl⟩
  · exact hf.elim) ha hb
theorem rep_flat {K : PySem.W.Frag} {F : Addr → Prop} {S : Store} {H : Hp} {xs : List D} {vs : List V} (rs : RepDs K F S H xs vs) : ∀ n : Nat, RepDs K F S H (List.replicate n xs).flatten (List.replicate n vs).flatten
  | 0 => rfl
  | n + 1 => by
    rw [List.replicate_succ, List.replicate_succ, List.flatten_cons, List.flatten_cons]
    exact RepDs.append rs (rep_flat rs n)
def fRep (x y : D) (S : Store) (Q : PQ) : Prop := match lstX S x, y with
  | some xs, .int k => (-(2 ^ 63) ≤ k ∧ k < 2 ^ 63 ∧ xs.length * k.toNat ≤ sizeLine) ∧ Q (.lst (List.replicate k.toNat xs).flatten) S
  | _, _ => False
theorem de_mulL (ha : DE X G a wa) (hb : DE X G b wb) : DE X G (.BinOp a .Mult b pos) (wOp fRep wa wb) := de_op op_rep (fun {F S H x y a b Q Q'} ok r1 r2 hf post => by
  unfold fRep at hf
  split at hf
  · rename_i xs k e1
    obtain ⟨p, vs, rfl, hv, rs⟩ := lst_ex ok r1 e1
    exact ⟨p, k, vs, rfl, r2, hv, hf.1.1, hf.1.2.1, by rw [← rs.length]; exact hf.1.2.2, fun l hl => post.newL ok (rep_flat rs _) hf.2 hl⟩
  · exact hf.elim) ha hb
/-- t[lo:hi], not the whole -/
def fSlT (x : D) (lo hi : Option Int) (S : Store) (Q : PQ) : Prop := match x with
  | .tup xs => ¬ (HT.sIx xs.length 0 lo = 0 ∧ HT.sIx xs.length xs.length hi = xs.length) ∧ Q (.tup (cutP xs lo hi)) S
  | _ => False
theorem de_slT {lo hi : Option Expr} {p2 : Pos} {wl wh : WO} (he : DE X G e wa) (hl : DO X G lo wl) (hu : DO X G hi wh) : DE X G (.Subscript e (.Slice lo hi none p2) pos) (wSl fSlT wa wl wh) := de_slice sl_tup (fun {F S H x a lo hi Q Q'} ok r1 hf post => by
  unfold fSlT at hf
  split at hf
  · rename_i xs
    obtain ⟨p, vs, rfl, hs, rs⟩ := r1
    exact ⟨p, vs, rfl, hs.sq, by rw [← rs.length]; exact hf.1, fun q hq => post.newT ok (rep_cut rs lo hi) hf.2 hq⟩
  · exact hf.elim) he hl hu
/-! ### f-strings -/
def wFmt (wa : WE) : WE := fun env S Q => wa env S fun x S1 => match x with
  | .str y => y.length ≤ sizeLine ∧ Q (.str y) S1
  | .int i => i.natAbs.log2 < 1920 ∧ Q (.str (toString i)) S1
  | _ => False
theorem de_fmt (h : DE X G e wa) : DE X G (.FormattedValue e (-1) none pos) (wFmt wa) := let ⟨_, p, s⟩ := h; ⟨_, pe_fmt p, fun {F S H env σ Q Q'} at_ hw post => s at_ hw fun v H1 d S1 ok1 f1 r1 q1 => by
  cases d <;> first | exact q1.elim | skip
  · rename_i i
    exact .inr ⟨i, r1, q1.1, (post.fr f1).here ok1 (d := .str _) rfl q1.2⟩
  · rename_i y
    exact .inl ⟨y, r1, q1.1, (post.fr f1).here ok1 (d := .str y) rfl q1.2⟩⟩
def wJs : List WE → Str → En → Store → (Str → Store → Prop) → Prop
  | [], acc, _, S, Q => Q acc S
  | w :: ws, acc, env, S, Q => w env S fun x S1 => match x with
    | .str y => (acc ++ y).length ≤ sizeLine ∧ wJs ws (acc ++ y) env S1 Q
    | _ => False
inductive DJ (X : Cx) (G : Gd) : List Expr → List WE → Prop where
  | nil : DJ X G [] []
  | cons {e : Expr} {w : WE} {es : List Expr} {ws : List WE} (h : DE X G e w) (r : DJ X G es ws) : DJ X G (e :: es) (w :: ws)
theorem dj_pj {es : List Expr} {ws : List WE} (h : DJ X G es ws) : ∃ ts, PJ X es ts ∧ ∀ {F : Addr → Prop} {S : Store} {H : Hp} {env : En} {σ : L2.St} {acc : Str} {Q : Str → Store → Prop} {Q' : Str → Hp → Prop}, At X.K G F S H env σ → wJs ws acc env S Q → (∀ y H' S', Ok X.K F S' H' → Fr S H S' H' → Q y S' → Q' y H') → tJs ts acc σ H Q' := by
  induction h with
  | nil => exact ⟨[], .nil, fun {F S H env σ acc Q Q'} at_ hw post => post acc H S at_.ok (Fr.refl _ _) hw⟩
  | cons h r ih =>
    obtain ⟨ts, pj, sj⟩ := ih
    obtain ⟨t, p, s⟩ := h
    refine ⟨t :: ts, .cons p pj, fun {F S H env σ acc Q Q'} at_ hw post => ?_⟩
    refine s at_ hw fun v H1 d S1 ok1 f1 r1 q1 => ?_
    cases d <;> first | exact q1.elim | skip
    rename_i y
    exact ⟨y, r1, q1.1, sj (at_.to ok1 f1) q1.2 fun z H2 S2 ok2 f2 q2 => post z H2 S2 ok2 (f1.trans f2) q2⟩
def wJoined (ws : List WE) : WE := fun env S Q => wJs ws Str.empty env S fun out S1 => Q (.str out) S1
theorem de_joined {v1 v2 : Expr} {rest : List Expr} {ws : List WE} (h : DJ X G (v1 :: v2 :: rest) ws) : DE X G (.JoinedStr (v1 :: v2 :: rest) pos) (wJoined ws) := by
  obtain ⟨ts, pj, sj⟩ := dj_pj h
  exact ⟨_, pe_joined pj, fun {F S H env σ Q Q'} at_ hw post => sj at_ hw fun y H' S' ok f q => post _ H' (.str y) S' ok f rfl q⟩
/-! ### x in (..), [..] of texts -/
def fInQ (neg : Bool) (x y : D) (S : Store) (Q : PQ) : Prop := match x, seqOf S y with
  | .str s, some ds => match strsOf ds with
    | some ss => Q (.bl (if neg then !decide (s ∈ ss) else decide (s ∈ ss))) S
    | none => False
  | _, _ => False
theorem inV_strs (s : Str) : ∀ ss : List Str, inV (.str s) (ss.map V.str) = decide (s ∈ ss)
  | [] => by simp [inV]
  | t :: ss => by
    have ih := inV_strs s ss
    unfold inV at ih ⊢
    rw [List.map_cons, List.any_cons, ih]
    show ((t == s) || decide (s ∈ ss)) = decide (s ∈ t :: ss)
    by_cases h : t = s
    · subst h; simp
    · have h' : ¬ s = t := fun z => h z.symm
      simp [h, h']
theorem flat_strs : ∀ ss : List Str, (ss.map V.str).all flatV = true
  | [] => rfl
  | s :: ss => by rw [List.map_cons, List.all_cons, flat_strs ss]; rfl
theorem sr_inQ {K : PySem.W.Frag} {neg : Bool} : SndR K (rIn K neg) (fInQ neg) := fun {F S H x y a b Q Q'} ok r1 r2 hf post => by
  unfold fInQ at hf
  split at hf
  · rename_i s ds e
    split at hf
    · rename_i ss es
      obtain ⟨p, vs, rfl, hs, rs⟩ := seq_of ok r2 e
      rw [strsOf_is es] at rs
      have ev := rs.strs
      subst ev
      cases r1
      exact ⟨p, _, rfl, hs, rfl, flat_strs ss, by rw [inV_strs]; exact post.here ok (d := .bl _) rfl hf⟩
    · exact hf.elim
  · exact hf.elim
theorem de_inL (ha : DE X G a wa) (hb : DE X G b wb) (hm : behindInMarks .In b = false := by first | exact nomark _ | rfl) : DE X G (.Compare a [.In] [b] pos) (wOp (fInQ false) wa wb) := de_cmp op_in_seq sr_inQ ha hb hm
theorem de_niL (ha : DE X G a wa) (hb : DE X G b wb) (hm : behindInMarks .NotIn b = false := by first | exact nomark _ | rfl) : DE X G (.Compare a [.NotIn] [b] pos) (wOp (fInQ true) wa wb) := de_cmp op_notIn_seq sr_inQ ha hb hm
theorem dt_inL (ha : DE X G a wa) (hb : DE X G b wb) (hm : behindInMarks .In b = false := by first | exact nomark _ | rfl) : DT X G (.Compare a [.In] [b] pos) (wB (wOp (fInQ false) wa wb)) := dt_cmp op_in_seq sr_inQ ha hb hm
theorem dt_niL (ha : DE X G a wa) (hb : DE X G b wb) (hm : behindInMarks .NotIn b = false := by first | exact nomark _ | rfl) : DT X G (.Compare a [.NotIn] [b] pos) (wB (wOp (fInQ true) wa wb)) := dt_cmp op_notIn_seq sr_inQ ha hb hm
/-! ### == of data -/
mutual
def toPy : D → Option PyData
  | .non => some .none
  | .bl b => some (.bool b)
  | .int i => some (.int i)
  | .str s => some (.str s)
  | .lst xs => (toPys xs).map .list
  | .tup xs => (toPys xs).map .tuple
  | _ => none
def toPys : List D → Option (List PyData)
  | [] => some []
  | x :: xs => match toPy x, toPys xs with
    | some p, some ps => some (p :: ps)
    | _, _ => none
end
mutual
theorem rep_dp {K : PySem.W.Frag} {F : Addr → Prop} {S : Store} {H : Hp} : ∀ (d : D) (v : V) (p : PyData), RepD K F S H d v → toPy d = some p → Dp K H v p
  | .non, _, _, r, h => by cases r; simp only [toPy] at h; cases h; exact .non
  | .bl _, _, _, r, h => by cases r; simp only [toPy] at h; cases h; exact .bl _
  | .int _, _, _, r, h => by cases r; simp only [toPy] at h; cases h; exact .int _
  | .str _, _, _, r, h => by cases r; simp only [toPy] at h; cases h; exact .str _
  | .lst xs, _, _, ⟨a, vs, rfl, hl, rs⟩, h => by
    simp only [toPy] at h
    cases e : toPys xs with
    | none => rw [e] at h; cases h
    | some ps => rw [e] at h; cases h; exact .lst hl.sq (rep_dps xs vs ps rs e)
  | .tup xs, _, _, ⟨a, vs, rfl, hl, rs⟩, h => by
    simp only [toPy] at h
    cases e : toPys xs with
    | none => rw [e] at h; cases h
    | some ps => rw [e] at h; cases h; exact .tup hl.sq (rep_dps xs vs ps rs e)
  | .ty _, _, _, _, h => by simp only [toPy] at h; cases h
  | .ref _, _, _, _, h => by simp only [toPy] at h; cases h
  | .cel _, _, _, _, h => by simp only [toPy] at h; cases h
  | .fro _, _, _, _, h => by simp only [toPy] at h; cases h
  | .ins _ _ _, _, _, _, h => by simp only [toPy] at h; cases h
  | .dT _ _, _, _, _, h => by simp only [toPy] at h; cases h
  | .dK _ _, _, _, _, h => by simp only [toPy] at h; cases h
theorem rep_dps {K : PySem.W.Frag} {F : Addr → Prop} {S : Store} {H : Hp} : ∀ (xs : List D) (vs : List V) (ps : List PyData), RepDs K F S H xs vs → toPys xs = some ps → DpAll K H vs ps
  | [], _, _, r, h => by cases r; simp only [toPys] at h; cases h; exact .nil
  | x :: xs, _, _, ⟨v, r, rfl, r1, r2⟩, h => by
    simp only [toPys] at h
    cases e : toPy x with
    | none => rw [e] at h; cases h
    | some p =>
      cases e2 : toPys xs with
      | none => rw [e, e2] at h; cases h
      | some ps => rw [e, e2] at h; cases h; exact .cons (rep_dp x v p r1 e) (rep_dps xs r ps r2 e2)
end
mutual
theorem toPy_plain : ∀ (d : D) (p : PyData), toPy d = some p → p.plain = true
  | .non, _, h => by simp only [toPy] at h; cases h; rfl
  | .bl _, _, h => by simp only [toPy] at h; cases h; rfl
  | .int _, _, h => by simp only [toPy] at h; cases h; rfl
  | .str _, _, h => by simp only [toPy] at h; cases h; rfl
  | .lst xs, _, h => by
    simp only [toPy] at h
    cases e : toPys xs with
    | none => rw [e] at h; cases h
    | some ps => rw [e] at h; cases h; simp only [PyData.plain]; exact toPys_plain xs ps e
  | .tup xs, _, h => by
    simp only [toPy] at h
    cases e : toPys xs with
    | none => rw [e] at h; cases h
    | some ps => rw [e] at h; cases h; simp only [PyData.plain]; exact toPys_plain xs ps e
  | .ty _, _, h => by simp only [toPy] at h; cases h
  | .ref _, _, h => by simp only [toPy] at h; cases h
  | .cel _, _, h => by simp only [toPy] at h; cases h
  | .fro _, _, h => by simp only [toPy] at h; cases h
  | .ins _ _ _, _, h => by simp only [toPy] at h; cases h
  | .dT _ _, _, h => by simp only [toPy] at h; cases h
  | .dK _ _, _, h => by simp only [toPy] at h; cases h
theorem toPys_plain : ∀ (xs : List D) (ps : List PyData), toPys xs = some ps → PyData.plainAll ps = true
  | [], _, h => by simp only [toPys] at h; cases h; rfl
  | x :: xs, _, h => by
    simp only [toPys] at h
    cases e : toPy x with
    | none => rw [e] at h; cases h
    | some p =>
      cases e2 : toPys xs with
      | none => rw [e, e2] at h; cases h
      | some ps => rw [e, e2] at h; cases h; simp only [PyData.plainAll, toPy_plain x p e, toPys_plain xs ps e2, Bool.and_self]
end
def fEqD (neg : Bool) (x y : D) (S : Store) (Q : PQ) : Prop := match toPy x, toPy y with
  | some p, some q => min p.depth q.depth ≤ 64 ∧ Q (.bl (if neg then !PyData.eqv p q else PyData.eqv p q)) S
  | _, _ => False
def rEqP (K : PySem.W.Frag) (neg : Bool) : R2 := fun x y H Q => ∃ d e, Dp K H x d ∧ Dp K H y e ∧ d.plain = true ∧ e.plain = true ∧ min d.depth e.depth ≤ 64 ∧ Q (.bl (if neg then !PyData.eqv d e else PyData.eqv d e)) H
theorem op_eqP (hu : X.A.units + 64 < cLine) : OpR X (compareOp .Eq) (rEqP X.K false) := by
  intro pins s σ H x y v u Q I rx ry h
  obtain ⟨d, e, hd, he, pd, pe, hm, q⟩ := h
  obtain ⟨as, r1⟩ := Dp.reads I d x v hd rx
  obtain ⟨bs, r2⟩ := Dp.reads I e y u he ry
  exact SeqAt.eq_plain r1 r2 pd pe (by omega) ⟨.bl _, H, I, rfl, q⟩
theorem op_neP (hu : X.A.units + 64 < cLine) : OpR X (compareOp .NotEq) (rEqP X.K true) := by
  intro pins s σ H x y v u Q I rx ry h
  obtain ⟨d, e, hd, he, pd, pe, hm, q⟩ := h
  obtain ⟨as, r1⟩ := Dp.reads I d x v hd rx
  obtain ⟨bs, r2⟩ := Dp.reads I e y u he ry
  exact SeqAt.ne_plain r1 r2 pd pe (by omega) ⟨.bl _, H, I, rfl, q⟩
theorem sr_eqD {K : PySem.W.Frag} {neg : Bool} : SndR K (rEqP K neg) (fEqD neg) := fun {F S H x y a b Q Q'} ok r1 r2 hf post => by
  unfold fEqD at hf
  split at hf
  · rename_i p q e1 e2
    exact ⟨p, q, rep_dp _ _ _ r1 e1, rep_dp _ _ _ r2 e2, toPy_plain _ _ e1, toPy_plain _ _ e2, hf.1, post.here ok (d := .bl _) rfl hf.2⟩
  · exact hf.elim
theorem de_eqD (hu : X.A.units + 64 < cLine) (ha : DE X G a wa) (hb : DE X G b wb) : DE X G (.Compare a [.Eq] [b] pos) (wOp (fEqD false) wa wb) := de_cmp (op_eqP hu) sr_eqD ha hb
theorem de_neD (hu : X.A.units + 64 < cLine) (ha : DE X G a wa) (hb : DE X G b wb) : DE X G (.Compare a [.NotEq] [b] pos) (wOp (fEqD true) wa wb) := de_cmp (op_neP hu) sr_eqD ha hb
theorem dt_eqD (hu : X.A.units + 64 < cLine) (ha : DE X G a wa) (hb : DE X G b wb) : DT X G (.Compare a [.Eq] [b] pos) (wB (wOp (fEqD false) wa wb)) := dt_cmp (op_eqP hu) sr_eqD ha hb
theorem dt_neD (hu : X.A.units + 64 < cLine) (ha : DE X G a wa) (hb : DE X G b wb) : DT X G (.Compare a [.NotEq] [b] pos) (wB (wOp (fEqD true) wa wb)) := dt_cmp (op_neP hu) sr_eqD ha hb
/-! ### str(x), int(x), max(xs) -/
def fStr (xs : List D) (S : Store) (Q : PQ) : Prop := match xs with
  | [.int i] => i.natAbs.log2 < 1920 ∧ Q (.str (toString i)) S
  | [.str s] => Q (.str s) S
  | _ => False
theorem call_strQ : CallR X (.type "str") (fun xs H Q => (∃ i, xs = [V.int i] ∧ i.natAbs.log2 < 1920 ∧ Q (.str (toString i)) H) ∨ ∃ a, xs = [V.str a] ∧ Q (.str a) H) := by
  intro pins s σ H xs us Q I r h
  rcases h with h | h
  · exact call_str_int pins s σ H xs us Q I r h
  · exact SkE.call_str_str pins s σ H xs us Q I r h
theorem de_str1 {p : Pos} (hm : X.mg "str" = none) (ha : DE X G e wa) (hg : Gl X "str" := by rfl) (he : starEach [e] X.env = (false, eval e X.env) :: starEach [] X.env := by rfl) (hpl : (backTo pos (starEach [] X.env)).any (·.1) = false := by rfl) : DE X G (.Call (.Name "str" p) [e] [] pos) (wCB fStr (wCons wa wNil)) :=
  de_callTy call_strQ (fun {F S H xs as Q Q'} ok rs hf post => by
    unfold fStr at hf
    split at hf
    · obtain ⟨v, rfl, r⟩ := one_rep rs
      cases r
      exact .inl ⟨_, rfl, hf.1, post.here ok (d := .str _) rfl hf.2⟩
    · obtain ⟨v, rfl, r⟩ := one_rep rs
      cases r
      exact .inr ⟨_, rfl, post.here ok (d := .str _) rfl hf⟩
    · exact hf.elim) hm (da_cons ha da_nil he) (by decide +kernel) hg (by decide) (by decide) he hpl
def fInt (xs : List D) (S : Store) (Q : PQ) : Prop := match xs with
  | [.int i] => Q (.int i) S
  | [.bl k] => Q (.int (if k then 1 else 0)) S
  | _ => False
theorem de_int1 {p : Pos} (hm : X.mg "int" = none) (ha : DE X G e wa) (hg : Gl X "int" := by rfl) (he : starEach [e] X.env = (false, eval e X.env) :: starEach [] X.env := by rfl) (hpl : (backTo pos (starEach [] X.env)).any (·.1) = false := by rfl) : DE X G (.Call (.Name "int" p) [e] [] pos) (wCB fInt (wCons wa wNil)) :=
  de_callTy call_int1 (fun {F S H xs as Q Q'} ok rs hf post => by
    unfold fInt at hf
    split at hf
    · obtain ⟨v, rfl, r⟩ := one_rep rs
      cases r
      exact .inl ⟨_, rfl, post.here ok (d := .int _) rfl hf⟩
    · obtain ⟨v, rfl, r⟩ := one_rep rs
      cases r
      exact .inr ⟨_, rfl, post.here ok (d := .int _) rfl hf⟩
    · exact hf.elim) hm (da_cons ha da_nil he) (by decide +kernel) hg (by decide) (by decide) he hpl
def intsOf : List D → Option (List Int)
  | [] => some []
  | .int b :: r => (intsOf r).map (b :: ·)
  | _ :: _ => none
theorem intsOf_map : ∀ bs : List Int, intsOf (bs.map D.int) = some bs
  | [] => rfl
  | b :: r => by show (intsOf (r.map D.int)).map (b :: ·) = _; rw [intsOf_map r]; rfl
theorem intsOf_is : ∀ {ds : List D} {bs : List Int}, intsOf ds = some bs → ds = bs.map D.int
  | [], bs, h => by cases h; rfl
  | d :: r, bs, h => by
    cases d <;> simp only [intsOf, reduceCtorEq] at h
    rename_i b
    cases e : intsOf r with
    | none => rw [e] at h; cases h
    | some cs => rw [e] at h; cases h; rw [intsOf_is e]; rfl
def fMax (xs : List D) (S : Store) (Q : PQ) : Prop := match xs with
  | [d] => match lstOf S d with
    | some ys => match intsOf ys with
      | some ns => 0 < ns.length ∧ ∀ m, m ∈ ns → (∀ y, y ∈ ns → y ≤ m) → Q (.int m) S
      | none => False
    | none => False
  | _ => False
theorem de_max {p : Pos} (hc : X.calm = true) (hm : X.mg "max" = none) (ha : DE X G e wa) (hg : Gl X "max" := by rfl) (he : starEach [e] X.env = (false, eval e X.env) :: starEach [] X.env := by rfl) (hpl : (backTo pos (starEach [] X.env)).any (·.1) = false := by rfl) : DE X G (.Call (.Name "max" p) [e] [] pos) (wCB fMax (wCons wa wNil)) :=
  de_callB (cr_max hc) (fun {F S H xs as Q Q'} ok rs hf post => by
    unfold fMax at hf
    split at hf
    · rename_i d
      split at hf
      · rename_i ys e
        split at hf
        · rename_i ns en
          obtain ⟨v, rfl, r⟩ := one_rep rs
          obtain ⟨p, vs, rfl, hs, rr⟩ := lst_of ok r e
          rw [intsOf_is en] at rr
          have ev := rr.ints
          subst ev
          exact ⟨p, ns, rfl, hs, hf.1, fun m h1 h2 => post.here ok (d := .int m) rfl (hf.2 m h1 h2)⟩
        · exact hf.elim
      · exact hf.elim
    · exact hf.elim) hm (da_cons ha da_nil he) (by decide +kernel) hg (by decide) (by decide) he hpl
/-! ### a, b, c = a list -/
def gwUnl (n : Nat) (ws : WGs) : WG := fun d env S Q => match lstOf S d with
  | some ds => ds.length = n ∧ ws ds env S Q
  | none => False
theorem dg_unl {k : Nat} {ws : WGs} {vs : List Nat} {n : Nat} (hc : X.calm = true) (h : DGs X G es ws vs) (hn : (assignEach es X.env).length = n := by rfl) (hst : (assignEach es X.env).findIdx? (·.1) = none := by rfl) : DGv X G (.Tuple es k pos) (gwUnl n ws) vs :=
  let ⟨_, p, s⟩ := h; ⟨_, pg_unl hc p hn hst, fun {F S H env σ d v Q Q'} at_ r hw post => by
    unfold gwUnl at hw
    split at hw
    · rename_i ds e
      obtain ⟨a, us, rfl, hl, rs⟩ := lst_of at_.ok r e
      exact ⟨a, us, rfl, hl, by rw [← rs.length]; exact hw.1, s at_ rs hw.2 post⟩
    · exact hw.elim⟩
/-! ### a table of the top, text keys, text values -/
theorem ix_kd {d : Addr} {es : Array DictEntry} {n : Nat} (T : KDict X.K X.w d es n) : IxR X (fun x y H Q => ∃ (z : Str) (u0 : Value) (v0 : V), x = .ref d ∧ y = .str z ∧ PySem.W.nsIn X.K d z = some (some u0) ∧ RelV v0 u0 ∧ Q v0 H) := by
  intro value slice pins s σ H x y v u Q I rx ry h hs
  obtain ⟨z, u0, v0, rfl, rfl, q⟩ := h
  cases (show v = Value.ref d from rx)
  exact tail_any (kd_type T I) slot_dict_getitem.lookup (op_item_kd T pins s σ H (.ref d) (.str z) _ u Q I rfl ry ⟨z, u0, v0, rfl, rfl, q⟩) hs
def fTab (kvs : List (Str × Str)) (x : D) (S : Store) (Q : PQ) : Prop := match x with
  | .str z => match kvs.lookup z with
    | some y => Q (.str y) S
    | none => False
  | _ => False
def wTab (kvs : List (Str × Str)) (wb : WE) : WE := fun env S Q => wb env S fun x S1 => fTab kvs x S1 Q
theorem de_tab {x : Str} {px : Pos} {d : Addr} {es : Array DictEntry} {n : Nat} {kvs : List (Str × Str)} (T : KDict X.K X.w d es n) (hm : X.mg x = some (.ref d)) (hv : ∀ z y, kvs.lookup z = some y → ∃ u, PySem.W.nsIn X.K d z = some (some u) ∧ RelV (.str y) u) (hb : DE X G b wb) (hg : Gl X x := by rfl) (hd : (x == ("__debug__" : Str)) = false := by decide) (hs : PlainIx b := by exact fun _ _ => rfl) :
    DE X G (.Subscript (.Name x px) b pos) (wTab kvs wb) := by
  obtain ⟨t, p, s⟩ := hb
  refine ⟨_, pe_ix (ix_kd T) (pe_glob (v := .ref d) hg hm rfl hd) p hs, fun {F S H env σ Q Q'} at_ hw post => s at_ hw fun v H1 dd S1 ok1 f1 r1 q1 => ?_⟩
  unfold fTab at q1
  split at q1
  · rename_i z
    split at q1
    · rename_i y ey
      obtain ⟨u, h1, h2⟩ := hv z y ey
      exact ⟨z, u, .str y, rfl, r1, h1, h2, (post.fr f1).here ok1 (d := .str y) rfl q1⟩
    · exact q1.elim
  · exact q1.elim
end
end Pz

set_option Elab.async false
set_option linter.all false
set_option maxRecDepth 100000
set_option maxHeartbeats 4000000
/-! the walk's simp, drawn names -/
namespace Pz
open PySem PySem.Spec PyProof.Rows L2
def nmOf (stem : List Nat) (sp : Nat) (mixed : Nat) (sgn : Nat → Nat) (k : Nat) : List Nat := if mixed * k % 2 = 0 then stem.take sp ++ [sgn k] ++ stem.drop sp else [sgn k] ++ stem.take (k % 3) ++ [sgn k]
def nmS (stem : List Nat) (sp : Nat) (mixed : Nat) (sgn : Nat → Nat) (k : Nat) : Str := ⟨(nmOf stem sp mixed sgn k).toArray⟩
structure NmD (m : Nat) (stem : List Nat) (sp mixed : Nat) (sgn : Nat → Nat) : Prop where
  len : stem.length ≤ 7
  let_ : ∀ c ∈ stem, c ∈ letters
  sp : sp ≤ stem.length
  mx : mixed ≤ 1
  sg : ∀ k, k < m → sgn k ∈ letters
  inj : ∀ j k, j < m → k < m → sgn j = sgn k → j = k
/-- drawn names -/
def NmF (m : Nat) (ys : List Str) : Prop := ∃ stem sp mixed sgn, NmD m stem sp mixed sgn ∧ ys = (List.range m).map (nmS stem sp mixed sgn)
theorem NmF.len {m : Nat} {ys : List Str} (h : NmF m ys) : ys.length = m := by
  obtain ⟨_, _, _, _, _, rfl⟩ := h
  rw [List.length_map, List.length_range]
theorem NmD.name {m : Nat} {stem : List Nat} {sp mixed : Nat} {sgn : Nat → Nat} (h : NmD m stem sp mixed sgn) {k : Nat} (hk : k < m) : isName (nmS stem sp mixed sgn k) = true := by
  have hs := h.sg k hk
  have hl := h.len
  have hp := h.sp
  refine isName_of ?_ ?_ ?_
  · show 1 ≤ (nmOf stem sp mixed sgn k).length
    unfold nmOf
    split <;> simp only [List.length_append, List.length_cons, List.length_nil] <;> omega
  · show (nmOf stem sp mixed sgn k).length ≤ 8
    unfold nmOf
    split <;> simp only [List.length_append, List.length_cons, List.length_nil, List.length_take, List.length_drop] <;> omega
  · show ∀ c ∈ nmOf stem sp mixed sgn k, c ∈ letters
    unfold nmOf
    intro c hc
    split at hc
    · simp only [List.mem_append, List.mem_singleton] at hc
      rcases hc with (hc | rfl) | hc
      · exact h.let_ c (List.mem_of_mem_take hc)
      · exact hs
      · exact h.let_ c (List.mem_of_mem_drop hc)
    · simp only [List.mem_append, List.mem_singleton] at hc
      rcases hc with (rfl | hc) | rfl
      · exact hs
      · exact h.let_ c (List.mem_of_mem_take hc)
      · exact hs
theorem NmF.name {m : Nat} {ys : List Str} (h : NmF m ys) : ∀ y ∈ ys, isName y = true := by
  obtain ⟨_, _, _, _, hd, rfl⟩ := h
  intro y hy
  obtain ⟨k, hk, rfl⟩ := List.mem_map.mp hy
  exact hd.name (List.mem_range.mp hk)
theorem nm_mix {stem : List Nat} {sp q a b : Nat} (hq : q ≤ 2) (hp : sp ≤ stem.length) (e : stem.take sp ++ [a] ++ stem.drop sp = [b] ++ stem.take q ++ [b]) : a = b := by
  have hl := congrArg List.length e
  simp only [List.length_append, List.length_cons, List.length_nil, List.length_take, List.length_drop] at hl
  match stem, hl, hp, e with
  | [], hl, _, _ => simp at hl
  | [x], hl, hp, e =>
    obtain rfl : q = 0 := by simp at hl; omega
    match sp, hp with
    | 0, _ => simp at e; exact e.1
    | 1, _ => simp at e; exact e.2
  | [x, y], hl, hp, e =>
    obtain rfl : q = 1 := by simp at hl; omega
    match sp, hp with
    | 0, _ => simp at e; exact e.1
    | 1, _ => simp at e; rw [e.2.1, e.1]
    | 2, _ => simp at e; exact e.2.2
  | [x, y, z], hl, hp, e =>
    obtain rfl : q = 2 := by simp at hl; omega
    match sp, hp with
    | 0, _ => simp at e; exact e.1
    | 1, _ => simp at e; rw [e.2.1, e.1]
    | 2, _ => simp at e; rw [e.2.2.1, e.2.1, e.1]
    | 3, _ => simp at e; exact e.2.2.2
  | _ :: _ :: _ :: _ :: r, hl, _, _ => simp at hl; omega
theorem nm_inj {m : Nat} {stem : List Nat} {sp mixed : Nat} {sgn : Nat → Nat} (h : NmD m stem sp mixed sgn) {j k : Nat} (hj : j < m) (hk : k < m) (e : nmS stem sp mixed sgn j = nmS stem sp mixed sgn k) : j = k := by
  have e1 : nmOf stem sp mixed sgn j = nmOf stem sp mixed sgn k := by
    have := congrArg (fun z : Str => z.cps.toList) e
    simpa [nmS] using this
  refine h.inj j k hj hk ?_
  unfold nmOf at e1
  split at e1 <;> split at e1
  · rw [List.append_assoc, List.append_assoc] at e1
    have := List.append_cancel_left e1
    simpa using this
  · exact nm_mix (by omega) h.sp e1
  · exact (nm_mix (by omega) h.sp e1.symm).symm
  · simp at e1; exact e1.1
theorem nodup_map {α β : Type} {f : α → β} : ∀ {l : List α}, (∀ x ∈ l, ∀ y ∈ l, f x = f y → x = y) → l.Nodup → (l.map f).Nodup
  | [], _, _ => List.nodup_nil
  | x :: l, hi, hn => by
    rw [List.map_cons, List.nodup_cons]
    rw [List.nodup_cons] at hn
    refine ⟨fun hm => ?_, nodup_map (fun a ha b hb => hi a (List.mem_cons_of_mem _ ha) b (List.mem_cons_of_mem _ hb)) hn.2⟩
    obtain ⟨y, hy, e⟩ := List.mem_map.mp hm
    have := hi y (List.mem_cons_of_mem _ hy) x List.mem_cons_self e
    subst this
    exact hn.1 hy
theorem NmF.nodup {m : Nat} {ys : List Str} (h : NmF m ys) : ys.Nodup := by
  obtain ⟨_, _, _, _, hd, rfl⟩ := h
  exact nodup_map (fun x hx y hy e => nm_inj hd (List.mem_range.mp hx) (List.mem_range.mp hy) e) List.nodup_range
theorem str_ext {a b : Str} (h : a.cps.toList = b.cps.toList) : a = b := by
  cases a; cases b
  simp at h
  rw [h]
def pNm : PSpec := fun ds S Q => ∃ (b : Addr) (m : Nat), ds = [.cel b, .int (m : Int)] ∧ Box S b ∧ m ≤ 26 ∧ ∀ (ys : List Str) S', NmF m ys → Box S' b → SB b S S' → Q (.lst (ys.map .str)) S'
theorem letters_inj : ∀ i, i < 26 → ∀ j, j < 26 → letters.getD i 0 = letters.getD j 0 → i = j := by decide +kernel
def sgnOf (first st : Int) (k : Nat) : Nat := letters.getD ((first + st * (k : Int)) % 26).toNat 0
theorem sgn_at (first st : Int) (k : Nat) : atI letters ((first + st * (0 + (k : Int))) % 26) = some (sgnOf first st k) := by
  rw [Int.zero_add]
  obtain ⟨j, ej⟩ : ∃ j : Nat, (first + st * (k : Int)) % 26 = (j : Int) := ⟨((first + st * (k : Int)) % 26).toNat, by omega⟩
  have hj : j < letters.length := by rw [letters_len]; omega
  unfold sgnOf
  rw [ej, Int.toNat_natCast]
  unfold atI
  rw [ixN_nat hj]
  show letters[j]? = _
  rw [List.getD_eq_getElem?_getD, List.getElem?_eq_getElem hj]
  rfl
theorem sgn_mem (first st : Int) (k : Nat) : sgnOf first st k ∈ letters := by
  have hj : ((first + st * (k : Int)) % 26).toNat < letters.length := by rw [letters_len]; omega
  unfold sgnOf
  rw [List.getD_eq_getElem?_getD, List.getElem?_eq_getElem hj]
  exact List.getElem_mem hj
theorem sgn_inj {first st : Int} (hs : st = 1 ∨ st = 3 ∨ st = 5 ∨ st = 7 ∨ st = 9 ∨ st = 11) {j k : Nat} (hj : j < 26) (hk : k < 26) (e : sgnOf first st j = sgnOf first st k) : j = k := by
  have e2 := letters_inj _ (by omega) _ (by omega) e
  rcases hs with rfl | rfl | rfl | rfl | rfl | rfl <;> omega
end Pz

set_option Elab.async false
set_option linter.all false
set_option maxRecDepth 100000
set_option maxHeartbeats 4000000
/-! a dict of written texts asked by get; comprehensions with a test; joins -/
namespace Pz
open PySem PySem.Spec PyProof.Rows L2
section
variable {X : Cx} {G : Gd} {a b c e f : Expr} {es : List Expr} {wa wb wc wf : WE} {pos : Pos}
inductive LitS : List (Option Expr) → List Expr → List (Str × Str) → Prop where
  | nil : LitS [] [] []
  | cons {k v : Str} {pk pv : Pos} {j1 j2} {ks : List (Option Expr)} {vs : List Expr} {kvs : List (Str × Str)} (r : LitS ks vs kvs) : LitS (some (.Constant (.str k) j1 pk) :: ks) (.Constant (.str v) j2 pv :: vs) ((k, v) :: kvs)
def litTs (kvs : List (Str × Str)) : List (TE × TE) := kvs.map fun kv => (tC (.str kv.1), tC (.str kv.2))
theorem LitS.pps {keys : List (Option Expr)} {values : List Expr} {kvs : List (Str × Str)} (h : LitS keys values kvs) : PPs X pos keys values (litTs kvs) := by
  induction h with
  | nil => exact pps_nil
  | cons r ih => exact pps_cons pe_str pe_str ih
theorem LitS.len {keys : List (Option Expr)} {values : List Expr} {kvs : List (Str × Str)} (h : LitS keys values kvs) : keys.length = kvs.length ∧ values.length = kvs.length ∧ keys.all (·.isSome) = true := by
  induction h with
  | nil => exact ⟨rfl, rfl, rfl⟩
  | cons r ih => obtain ⟨h1, h2, h3⟩ := ih; exact ⟨by simp [h1], by simp [h2], by rw [List.all_cons, h3]; rfl⟩
def kvV (kvs : List (Str × Str)) : List (Key × V) := kvs.map fun kv => (Sum.inr kv.1, V.str kv.2)
theorem lit_pairs {σ : L2.St} : ∀ {kvs : List (Str × Str)} {H : Hp} {Q : List (V × V) → Hp → Prop}, Q ((kvV kvs).map fun kv => (kV kv.1, kv.2)) H → tPairs (litTs kvs) σ H Q
  | [], _, _, q => q
  | kv :: r, H, Q, q => lit_pairs (kvs := r) (Q := fun ps H3 => Q ((V.str kv.1, V.str kv.2) :: ps) H3) q
theorem merge_new : ∀ (more acc : List (Key × V)), (acc.map (·.1) ++ more.map (·.1)).Nodup → mergeK acc more = acc ++ more
  | [], acc, _ => by simp [mergeK]
  | kv :: r, acc, h => by
    have hn : ¬ (acc.any fun q => decide (q.1 = kv.1)) = true := by
      intro z
      obtain ⟨q, hq, e⟩ := List.any_eq_true.mp z
      rw [List.nodup_append] at h
      exact h.2.2 q.1 (List.mem_map_of_mem hq) kv.1 (by simp) (of_decide_eq_true e)
    have e1 : mergeK acc (kv :: r) = mergeK (acc ++ [kv]) r := by
      show (kv :: r).foldl _ _ = r.foldl _ _
      rw [List.foldl_cons]
      unfold putK
      rw [if_neg hn]
    rw [e1, merge_new r (acc ++ [kv]) (by simpa using h)]
    simp
theorem kv_nodup : ∀ {kvs : List (Str × Str)}, (kvs.map (·.1)).Nodup → ((kvV kvs).map (·.1)).Nodup := by
  intro kvs h
  have e : (kvV kvs).map (·.1) = (kvs.map (·.1)).map (Sum.inr : Str → Key) := by simp [kvV]
  rw [e]
  exact nodup_map (fun x _ y _ q => Sum.inr.inj q) h
theorem val_lookup (z : Str) : ∀ kvs : List (Str × Str), valV (kvV kvs) (Sum.inr z : Key) = (kvs.lookup z).map V.str
  | [] => rfl
  | kv :: r => by
    have ih := val_lookup z r
    by_cases h : kv.1 = z
    · have e : kvV (kv :: r) = ((Sum.inr kv.1 : Key), V.str kv.2) :: kvV r := rfl
      rw [e, valV_pos (by rw [h]), List.lookup_cons]
      rw [show (z == kv.1) = true from by rw [h]; exact beq_self_eq_true z]
      rfl
    · have e : kvV (kv :: r) = ((Sum.inr kv.1 : Key), V.str kv.2) :: kvV r := rfl
      rw [e, valV_neg (fun q => h (Sum.inr.inj q)), List.lookup_cons, ih]
      rw [show (z == kv.1) = false from by rw [beq_eq_false_iff_ne]; exact fun q => h q.symm]
def wGetS (kvs : List (Str × Str)) (wa wf : WE) : WE := fun env S Q => wa env S fun x S1 => wf env S1 fun y S2 => match x with
  | .str z => Q (match kvs.lookup z with | some v => .str v | none => y) S2
  | _ => False
theorem de_getS {keys : List (Option Expr)} {values : List Expr} {kvs : List (Str × Str)} {p apos cpos : Pos} (hu : X.A.units + 64 < cLine) (hl : LitS keys values kvs) (ha : DE X G e wa) (hf : DE X G f wf) (h0 : keys ≠ [] := by exact List.cons_ne_nil _ _) (h15 : kvs.length ≤ 15 := by decide) (hn : (kvs.map (·.1)).Nodup := by decide +kernel)
    (hbase : attributeBase (.Dict keys values p) "get" X.env (eval (.Dict keys values p) X.env) = eval (.Dict keys values p) X.env := by rfl)
    (hfew : ((backTo cpos (starEach [e, f] X.env)).all (fun x => !x.1) && (backToKw cpos (keywordEach [] X.env)).all (fun x => x.1.isSome)
      && decide (([e, f] : List Expr).length + ([] : List Keyword).length + (if ([] : List Keyword).isEmpty then 0 else 1) < 30)) = true := by rfl)
    (hline : (apos.endLine == cpos.line) = true := by rfl) (hs : backTo cpos (starEach [e, f] X.env) = [(false, eval e X.env), (false, eval f X.env)] := by rfl) :
    DE X G (.Call (.Attribute (.Dict keys values p) "get" apos) [e, f] [] cpos) (wGetS kvs wa wf) := by
  obtain ⟨t1, p1, s1⟩ := ha
  obtain ⟨t2, p2, s2⟩ := hf
  obtain ⟨l1, l2, l3⟩ := hl.len
  refine ⟨_, pe_dget2 (by omega) (pe_disp hl.pps l3 (by rw [l1, l2]) h0 (by omega)) p1 p2 ⟨hbase, hfew, hline, hs⟩, fun {F S H env σ Q Q'} at_ hw post => ?_⟩
  intro q hq
  refine lit_pairs ?_
  refine ⟨upd_same, kvV kvs, rfl, by simp [kvV]; exact h15, ?_⟩
  have e : mergeK [] (kvV kvs) = kvV kvs := by
    have := merge_new (kvV kvs) [] (by simpa using kv_nodup hn)
    simpa using this
  have eu : upd (upd H q (.dK [])) q (.dK (mergeK [] (kvV kvs))) = upd H q (.dK (kvV kvs)) := by
    rw [e]; funext b; unfold upd; split <;> rfl
  rw [eu]
  refine ⟨q, rfl, .inl ⟨_, .inl upd_same⟩, ?_⟩
  have f0 : Fr S H S (upd H q (.dK (kvV kvs))) := Fr.new at_.ok hq
  have ok0 : Ok X.K F S (upd H q (.dK (kvV kvs))) := at_.ok.new hq
  refine s1 (at_.to ok0 f0) hw fun v H1 d S1 ok1 f1 r1 q1 => s2 (at_.to ok1 (f0.trans f1)) q1 fun u H2 d2 S2 ok2 f2 r2 q2 => ?_
  cases d <;> first | exact q2.elim | skip
  rename_i z
  cases r1
  have eq2 : H2 q = some (.dK (kvV kvs)) := (f2 q _ (f1 q _ upd_same (at_.ok.free hq).1).1 (f1 q _ upd_same (at_.ok.free hq).1).2).1
  refine ⟨(kvs.lookup z).map V.str, .inl ⟨kvV kvs, Sum.inr z, .inl eq2, rfl, (val_lookup z kvs).symm⟩, ?_⟩
  have fa := (f0.trans f1).trans f2
  cases ez : kvs.lookup z with
  | none => simp only [ez] at q2; exact (post.fr fa).here ok2 r2 q2
  | some v => simp only [ez] at q2; exact (post.fr fa).here ok2 (d := .str v) rfl q2
end
theorem hu_of {k : Nat} {A : Around} (r : Room k A) : A.units + 64 < cLine := by have := r.un; omega
/-- a comprehension that leaves some out, the store as it was -/
theorem lc_fm {α : Type} {ys : List α} {mk : α → D} {S1 : Store} {Q : PQ} {g : WG} {wt : WT} {we : WE} {vs : List Nat} {env : En} (f : α → Option D) (hl : ys.length ≤ sizeLine)
    (hs : ∀ y, y ∈ ys → ∀ (R : PQ) (N : Store → Prop), (∀ d, f y = some d → R d S1) → (f y = none → N S1) → g (mk y) (wipeD env vs) S1 fun env2 S2 => wt env2 S2 fun k S3 => match k with
      | true => we env2 S3 R
      | false => N S3) (hQ : Q (.lst (ys.filterMap f)) S1) : LcGo g wt we vs env Q (ys.map mk) S1 := by
  refine ⟨fun i acc S => S = S1 ∧ acc = (ys.take i).filterMap f, ⟨rfl, rfl⟩, ?_⟩
  rintro i acc S ⟨rfl, rfl⟩
  rw [List.getElem?_map]
  cases e : ys[i]? with
  | none =>
    have h := List.getElem?_eq_none_iff.mp e
    show Q (.lst ((ys.take i).filterMap f)) S
    rw [List.take_of_length_le h]
    exact hQ
  | some x =>
    have hi := (List.getElem?_eq_some_iff.mp e).1
    refine hs x (List.mem_of_getElem? e) _ _ (fun d hd => ⟨?_, rfl, ?_⟩) fun hd => ⟨rfl, ?_⟩
    · have := List.length_filterMap_le f (ys.take i)
      rw [List.length_take] at this
      omega
    · rw [List.take_add_one, e, List.filterMap_append]; simp [hd]
    · rw [List.take_add_one, e, List.filterMap_append]; simp [hd]
theorem glue_sep (s : Str) : ∀ (ps : List Str) (a : Array Nat), (ps.foldl (fun acc p => acc ++ s.cps ++ p.cps) a).toList = a.toList ++ (ps.map fun p => s.cps.toList ++ p.cps.toList).flatten
  | [], a => by simp
  | p :: ps, a => by
    rw [List.foldl_cons, glue_sep s ps]
    simp
theorem codes_joinS (s p : Str) (ps : List Str) : (Txt.join s (p :: ps)).cps.toList = p.cps.toList ++ (ps.map fun q => s.cps.toList ++ q.cps.toList).flatten := by
  show (((p :: ps).drop 1).foldl (fun acc p => acc ++ s.cps ++ p.cps) ((p :: ps).headD Str.empty).cps).toList = _
  rw [glue_sep]
  rfl
theorem empty_app (x : Str) : Str.empty ++ x = x := str_ext (by rw [codes_app]; rfl)
theorem app_assoc (x y z : Str) : x ++ y ++ z = x ++ (y ++ z) := str_ext (by rw [codes_app, codes_app, codes_app, codes_app, List.append_assoc])
end Pz

set_option Elab.async false
set_option linter.all false
set_option maxRecDepth 100000
set_option maxHeartbeats 4000000
/-! lemmas for the walk's simp -/
namespace Pz
open PySem PySem.Spec PyProof.Rows L2
theorem atD_0 {x : D} {xs : List D} : atD (x :: xs) 0 = some x := atD_nat (i := 0) rfl
theorem atD_1 {x y : D} {xs : List D} : atD (x :: y :: xs) 1 = some y := atD_nat (i := 1) rfl
theorem atD_2 {x y z : D} {xs : List D} : atD (x :: y :: z :: xs) 2 = some z := atD_nat (i := 2) rfl
theorem atD_3 {x y z u : D} {xs : List D} : atD (x :: y :: z :: u :: xs) 3 = some u := atD_nat (i := 3) rfl
theorem atD_4 {x y z u v : D} {xs : List D} : atD (x :: y :: z :: u :: v :: xs) 4 = some v := atD_nat (i := 4) rfl
theorem fSlT_1 {x : D} {xs : List D} {S : Store} {Q : PQ} : fSlT (.tup (x :: xs)) (some 1) none S Q = Q (.tup xs) S := by
  have e : HT.sIx (x :: xs).length 0 (some 1) = 1 := by
    have := HT.sIx_nat (x :: xs).length 0 1
    rw [show ((1 : Nat) : Int) = 1 from rfl] at this
    rw [this, List.length_cons]
    omega
  have e2 : HT.sIx (x :: xs).length (x :: xs).length none = (x :: xs).length := rfl
  show (¬ (HT.sIx (x :: xs).length 0 (some 1) = 0 ∧ HT.sIx (x :: xs).length (x :: xs).length none = (x :: xs).length) ∧ Q (.tup (((x :: xs).drop (HT.sIx (x :: xs).length 0 (some 1))).take (HT.sIx (x :: xs).length (x :: xs).length none - HT.sIx (x :: xs).length 0 (some 1)))) S) = _
  rw [e, e2]
  have e3 : ((x :: xs).drop 1).take ((x :: xs).length - 1) = xs := by simp
  rw [e3]
  simp
theorem fLenT {xs : List D} {S : Store} {Q : PQ} : fLenL [.tup xs] S Q = Q (.int xs.length) S := rfl
theorem fLenLs {xs : List D} {S : Store} {Q : PQ} : fLenL [.lst xs] S Q = Q (.int xs.length) S := rfl
theorem fEqS {a b : Str} {S : Store} {Q : PQ} : fEq (.str a) (.str b) S Q = Q (.bl (decide (a = b))) S := rfl
theorem fEqI {a b : Int} {S : Store} {Q : PQ} : fEq (.int a) (.int b) S Q = Q (.bl (decide (a = b))) S := rfl
theorem fNeS {a b : Str} {S : Store} {Q : PQ} : fNe (.str a) (.str b) S Q = Q (.bl (!decide (a = b))) S := rfl
theorem fNeI {a b : Int} {S : Store} {Q : PQ} : fNe (.int a) (.int b) S Q = Q (.bl (!decide (a = b))) S := rfl
theorem fIxLs {xs : List D} {i : Int} {S : Store} {Q : PQ} : fIxL (.lst xs) (.int i) S Q = (match atD xs i with | some d => Q d S | none => False) := rfl
theorem fIxTs {xs : List D} {i : Int} {S : Store} {Q : PQ} : fIxT (.tup xs) (.int i) S Q = (match atD xs i with | some d => Q d S | none => False) := rfl
section
variable {X : Cx} {G : Gd} {a : Expr} {wa : WE} {pos : Pos}
def fNeg (x : D) (S : Store) (Q : PQ) : Prop := match x with
  | .int i => Q (.int (-i)) S
  | _ => False
theorem de_neg (ha : DE X G a wa) : DE X G (.UnaryOp .USub a pos) (wUn fNeg wa) := de_un un_neg (fun {F S H x a Q Q'} ok r hf post => by
  cases a <;> first | exact hf.elim | skip
  exact ⟨_, r, post.here ok (d := .int _) rfl hf⟩) ha
end
end Pz

set_option Elab.async false
set_option linter.all false
set_option maxRecDepth 100000
set_option maxHeartbeats 4000000
namespace K50
open PySem PySem.Spec PyProof.Rows L2 Pz
def top (i : Nat) : Stmt := PySem.Challenge.pw_tipmeet_k50_words_written.main.body.getD i (.Pass ⟨0, 0, 0, 0⟩)
abbrev FnP (K : PySem.W.Frag) (x : Str) (st : Stmt) (f : Addr) (fd : FuncData) : Prop := FunD K x x (defArgs st) (defBody st) (defScope st) [] [] f fd
local macro_rules | `(tactic| walk_at "w") => `(tactic| (try (simp only [wOp, wVar, wC, wB, wAsg, wRet, wDrop, gwName, gwSub, wIfS, wIf, wAndV, wOrV, wNotV, wNot, wAnd, wOr, wCB, wCons, wNil, wTup, wLst, wLstC, wCall, wPar, wAug, wAugS, wNext, wUn, wChain, wSl, wPart, wNoPart, wBM, wBM0, wIsi, wIsi2, fI0, fI, fLt, fLe, fGt, fGe, startD, List.map_cons, List.map_nil, List.length_cons, List.length_nil, List.replicate, List.cons_append, List.nil_append, Nat.reduceAdd, Nat.reduceSub, List.getElem?_cons_zero, List.getElem?_cons_succ, List.set_cons_zero, List.set_cons_succ, gwTup, gwCons, gwNil, true_and, wFor, wLc, wiL, wiR1, wiR2, wiS, wiT, wipeD, wFmt, wJoined, wJs, wTab, gwUnl])))
structure Txt (mg : Str → Option Value) : Prop where
  len : mg "len" = none
  all : mg "all" = none
  any : mg "any" = none
  range : mg "range" = none
  list : mg "list" = none
  tuple : mg "tuple" = none
  isinstance : mg "isinstance" = none
  bool : mg "bool" = none
  int : mg "int" = none
  str : mg "str" = none
  max : mg "max" = none
  min : mg "min" = none
  sum : mg "sum" = none
  sorted : mg "sorted" = none
  dict : mg "dict" = none
  repr : mg "repr" = none
  type : mg "type" = none
  zip : mg "zip" = none
  enumerate : mg "enumerate" = none
  set : mg "set" = none
  abs : mg "abs" = none
  reversed : mg "reversed" = none
section
variable {P : Program} {w : World} {K : PySem.W.Frag} {mg : Str → Option Value} {base : Heap} {f : Addr} {fd : FuncData}
theorem scTake : FnScope ["_law_box_here", "_law_many", "_law_rest", "_law_one", "_law_mixed"] ["_law_box_here", "_law_many"] (defScope (top 6)) := ⟨rfl, rfl, rfl, by decide +kernel, rfl, by decide +kernel, by decide +kernel⟩
theorem ok_take (Fn : FnP K "_law_take" (top 6) f fd) (T : Txt mg) : FnOk P w K mg base CX0 1 f fd ["_law_box_here", "_law_many"] (spP K pTake) := by
  have sc := scTake
  refine fn_pureD Fn scTake (fun ds S Q h => by obtain ⟨b, m, rfl, _⟩ := h; rfl) fun cdv A outer s H E hr => ⟨_,
   (dss_cons (ds_if (dt_gt (de_ixL (de_v 0) de_int) de_int)
      (dss_cons (ds_set (i := 2) sc.nd (de_ixL (de_v 0) de_int))
      (dss_cons (ds_asg (de_fdiv (de_v 2) (de_v 1)) (dg_subL (de_v 0) de_int))
      (dss_one (ds_ret (de_mod (de_v 2) (de_v 1))))))
      dss_nil)
      (dss_cons (ds_set (i := 3) sc.nd de_int)
      (dss_cut (ds_if (dt_lt (de_ixL (de_v 0) de_int) (de_lenL T.len (de_ixL (de_v 0) de_int)))
      (dss_one (ds_set (i := 3) sc.nd (de_ixL (de_ixL (de_v 0) de_int) (de_ixL (de_v 0) de_int))))
      dss_nil)
      (dss_cons (ds_augS (de_v 0) de_int de_int ip_add sr_ipAdd)
      (dss_cons (ds_if (dt_ge (de_v 3) (de_pow de_int de_int))
      (dss_cons (ds_asg (de_fdiv (de_v 3) (de_v 1)) (dg_subL (de_v 0) de_int))
      (dss_one (ds_ret (de_mod (de_v 3) (de_v 1)))))
      dss_nil)
      (dss_cons (ds_set (i := 4) sc.nd (de_mod (de_add (de_add (de_ixL (de_v 0) de_int) (de_mul (de_mod (de_v 3) de_int) de_int)) (de_mul (de_ixL (de_v 0) de_int) de_int)) de_int))
      (dss_cons (ds_set (i := 4) sc.nd (de_mod (de_add (de_add (de_mul (de_v 4) (de_v 4)) (de_mul de_int (de_v 4))) de_int) de_int))
      (dss_cons (ds_asg (de_mod (de_add (de_add (de_mul (de_v 4) de_int) (de_mod (de_ixL (de_v 0) de_int) de_int)) de_int) de_int) (dg_subL (de_v 0) de_int))
      (dss_one (ds_ret (de_mod (de_fdiv (de_ixL (de_v 0) de_int) de_int) (de_v 1)))))))))))), ?_⟩
  rintro ds S Q ⟨b, m, rfl, ⟨c, hb, ns, i, r, s, rfl, hi⟩, hm, hm2, k⟩
  have fin : ∀ (v i' r' s' : Int) (S' : Store), 0 ≤ v → v < m → 0 ≤ i' → S' b = some (.lst [.lst (ns.map .int), .int i', .int r', .int s']) → SB b S S' → Pz.Fin K Q (.int v) S' :=
    fun v i' r' s' S' h1 h2 h3 h4 h5 => Fin.here (k v S' h1 h2 ⟨_, h4, ns, i', r', s', rfl, h3⟩ h5)
  refine s_seq ?_
  walk_at "w"
  refine fIxL_to (lstOf_cel hb) (by rfl) ?_
  by_cases h : 0 < r
  · simp only [h, decide_true]
    refine s_seq ?_
    walk_at "w"
    refine fIxL_to (lstOf_cel hb) (by rfl) ?_
    refine s_seq ?_
    walk_at "w"
    refine ⟨⟨hm, hm2⟩, fSetL_to hb (by rfl) ?_⟩
    walk_at "w"
    exact ⟨hm, fin _ i _ s _ (Int.emod_nonneg _ (by omega)) (Int.emod_lt_of_pos _ hm) hi sset_same (SB.set _ _ _)⟩
  · simp only [h, decide_false]
    walk_at "w"
    refine s_seq ?_
    walk_at "w"
    refine ⟨fun env' S' => ∃ one : Int, env' = [some (.cel b), some (.int m), none, some (.int one), none] ∧ S' = S, ?_, ?_⟩
    · walk_at "w"
      refine fIxL_to (lstOf_cel hb) (by rfl) ?_
      refine fIxL_to (lstOf_cel hb) (by rfl) ?_
      refine fLenL_to (by rfl) ?_
      by_cases h1 : i < ((ns.map D.int).length : Int)
      · simp only [h1, decide_true]
        walk_at "w"
        refine fIxL_to (lstOf_cel hb) (by rfl) ?_
        refine fIxL_to (lstOf_cel hb) (by rfl) ?_
        obtain ⟨j, rfl⟩ : ∃ j : Nat, i = (j : Int) := ⟨i.toNat, by omega⟩
        have hj : j < ns.length := by rw [List.length_map] at h1; omega
        refine fIxL_to (d := .int ns[j]) (by rfl) (atD_nat (by rw [List.getElem?_map, List.getElem?_eq_getElem hj]; rfl)) ?_
        exact ⟨ns[j], rfl, rfl⟩
      · simp only [h1, decide_false]
        exact ⟨0, by first | rfl | trivial, by first | rfl | trivial⟩
    · rintro env' S' ⟨one, rfl, rfl⟩
      refine s_seq ?_
      walk_at "w"
      refine fIxL_to (lstOf_cel hb) (by rfl) ?_
      refine fSetL_to hb (by rfl) ?_
      have hb1 : sset S' b (.lst [.lst (ns.map .int), .int (i + 1), .int r, .int s]) b = some (.lst [.lst (ns.map .int), .int (i + 1), .int r, .int s]) := sset_same
      generalize hS1 : sset S' b (.lst [.lst (ns.map .int), .int (i + 1), .int r, .int s]) = S1 at hb1
      have sb1 : SB b S' S1 := by rw [← hS1]; exact SB.set _ _ _
      show wSeq _ _ _ _ (sset S' b (.lst [.lst (ns.map .int), .int (i + 1), .int r, .int s]))
      rw [hS1]
      refine s_seq ?_
      walk_at "w"
      refine ⟨⟨by decide, by decide, by decide⟩, ?_⟩
      by_cases h2 : (10 : Int) ^ (18 : Int).toNat ≤ one
      · simp only [h2, decide_true]
        refine s_seq ?_
        walk_at "w"
        refine ⟨⟨hm, hm2⟩, fSetL_to hb1 (by rfl) ?_⟩
        walk_at "w"
        exact ⟨hm, fin _ (i + 1) _ s _ (Int.emod_nonneg _ (by omega)) (Int.emod_lt_of_pos _ hm) (by omega) sset_same (sb1.trans (SB.set _ _ _))⟩
      · simp only [h2, decide_false]
        walk_at "w"
        refine s_seq ?_
        walk_at "w"
        refine fIxL_to (lstOf_cel hb1) (by rfl) ?_
        walk_at "w"
        refine ⟨by decide, .inr ⟨by decide, by decide⟩, fIxL_to (lstOf_cel hb1) (by rfl) ?_⟩
        refine ⟨.inr ⟨by decide, by decide⟩, by decide, ?_⟩
        generalize hx : (s + one % 2147483629 * 69621 + (i + 1) * 104729) % 2147483587 = x
        have hx1 : 0 ≤ x ∧ x < 2147483587 := by omega
        refine s_seq ?_
        walk_at "w"
        refine ⟨.inl ⟨by omega, by omega⟩, .inl ⟨by decide, by decide⟩, by decide, ?_⟩
        generalize hy : (x * x + 40961 * x + 77) % 2147483629 = y
        have hy1 : 0 ≤ y ∧ y < 2147483629 := by omega
        refine s_seq ?_
        walk_at "w"
        refine ⟨.inr ⟨by decide, by decide⟩, fIxL_to (lstOf_cel hb1) (by rfl) ?_⟩
        refine ⟨by decide, by decide, fSetL_to hb1 (by rfl) ?_⟩
        walk_at "w"
        refine fIxL_to (lstOf_cel sset_same) (by rfl) ?_
        refine ⟨⟨by decide, by decide⟩, hm, ?_⟩
        exact fin _ (i + 1) r _ _ (Int.emod_nonneg _ (by omega)) (Int.emod_lt_of_pos _ hm) (by omega) sset_same (sb1.trans (SB.set _ _ _))
theorem cutP_map {α : Type} (g : α → D) (ns : List α) (lo hi : Option Int) : ∃ ms : List α, cutP (ns.map g) lo hi = ms.map g ∧ ms.length ≤ ns.length := by
  refine ⟨(ns.drop (HT.sIx ns.length 0 lo)).take (HT.sIx ns.length ns.length hi - HT.sIx ns.length 0 lo), ?_, ?_⟩
  · unfold cutP
    rw [List.length_map, List.map_take, List.map_drop]
  · rw [List.length_take, List.length_drop]; omega
theorem scBox : FnScope ["_law_script", "_law_seed", "_law_one"] ["_law_script"] (defScope (top 5)) := ⟨rfl, rfl, rfl, by decide +kernel, rfl, by decide +kernel, by decide +kernel⟩
theorem ok_box (Fn : FnP K "_law_box" (top 5) f fd) (T : Txt mg) : FnOk P w K mg base CX0 1 f fd ["_law_script"] (spP K pBox) := by
  have sc := scBox
  refine fn_pureD Fn scBox (fun ds S Q h => by obtain ⟨ns, rfl, _⟩ := h; rfl) fun cdv A outer s H E hr => ⟨_, (dss_cons (ds_set (i := 1) sc.nd de_int)
      (dss_cons (ds_for PassesOwn.never rfl (di_list (de_slL (de_v 0) do_none (do_some de_int))) (dg_name (i := 2) sc.nd)
      (dss_one (ds_set (i := 1) sc.nd (de_mod (de_add (de_add (de_mul (de_v 1) de_int) (de_mod (de_v 2) de_int)) de_int) de_int))))
      (dss_one (ds_ret (de_lstC (da_cons (de_list T.list (de_slL (de_v 0) do_none (do_some de_int))) (da_cons de_int (da_cons de_int (da_cons (de_v 1) da_nil))))))))), ?_⟩
  rintro ds S Q ⟨ns, rfl, hns, k⟩
  obtain ⟨ms, e, hms⟩ := cutP_map D.int ns none (some 63)
  refine s_seq ?_
  walk_at "w"
  refine s_seq ?_
  walk_at "w"
  simp only [fSlL, lstOf, e]
  refine for_go (fun i env S' => S' = S ∧ ∃ (seed : Int) (o : Option D), env = [some (.fro (ns.map .int)), some (.int seed), o]) ⟨rfl, 7919, none, rfl⟩ ?_ ?_
  · rintro i x env S' hx ⟨rfl, seed, o, rfl⟩
    rw [List.getElem?_map] at hx
    cases q : ms[i]? with
    | none => rw [q] at hx; cases hx
    | some n =>
      rw [q] at hx
      cases hx
      walk_at "w"
      exact ⟨.inr ⟨by decide, by decide⟩, by decide, by decide, _, _, rfl⟩
  · rintro i env S' hx ⟨rfl, seed, o, rfl⟩
    walk_at "w"
    simp only [fSlL, lstOf, e, fList, seqOf]
    refine ⟨by decide, fun a ha => Fin.here (k a _ ha ⟨_, sset_same, ms, 0, 0, seed, rfl, Int.le_refl _⟩ (SB.set _ _ _))⟩

theorem scSame : FnScope ["_law_found", "_law_due", "_law_k"] ["_law_found", "_law_due"] (defScope (top 7)) := ⟨rfl, rfl, rfl, by decide +kernel, rfl, by decide +kernel, by decide +kernel⟩
theorem kb_list (t : String) (h : t = "NoneType" ∨ t = "bool" ∨ t = "int" ∨ t = "str" ∨ t = "list" ∨ t = "tuple") : kitB t "list" = some (decide (t = "list")) ∧ kitB t "tuple" = some (decide (t = "tuple")) ∧ kitB t "bool" = some (decide (t = "bool")) ∧ kitB t "int" = some (decide (t = "bool" ∨ t = "int")) ∧ kitB t "str" = some (decide (t = "str")) := by
  rcases h with rfl | rfl | rfl | rfl | rfl | rfl <;> decide +kernel
theorem ok_same (Fn : FnP K "_law_same" (top 7) f fd) (T : Txt mg) (hm : mg "_law_same" = some (.ref f)) (hb : Binds K fd ["_law_found", "_law_due"] []) (n : Nat) : FnOk P w K mg base CX0 n f fd ["_law_found", "_law_due"] (spP K (pSame n)) := by
  induction n with
  | zero =>
    refine ⟨fun vs H Q E h => ?_, fun A outer s H args us vs Q E _ _ _ _ h => ?_⟩
    · obtain ⟨F, S, ds, Qp, ok, rs, ⟨x, y, _, hp, _⟩, post⟩ := h; cases hp
    · obtain ⟨F, S, ds, Qp, ok, rs, ⟨x, y, _, hp, _⟩, post⟩ := h; cases hp
  | succ n ih =>
    have sc := scSame
    have Cs : Callee P w K mg base n "_law_same" ["_law_found", "_law_due"] (pSame n) := ⟨f, fd, ih, hm, Fn.kp, hb⟩
    refine fn_pureD Fn scSame (fun ds S Q h => by obtain ⟨x, y, rfl, _⟩ := h; rfl) fun cdv A outer s H E hr => ⟨_, (dss_cons (ds_if (dt_val (de_isi2 (n := "list") (m := "tuple") T.isinstance (de_v 1) T.list T.tuple))
      (dss_cons (ds_if (DW.dt (dw_or (dt_ne (de_isi (n := "list") T.isinstance (de_v 0) T.list) (de_isi (n := "list") T.isinstance (de_v 1) T.list)) (dw_or1 (dt_ne (de_isi (n := "tuple") T.isinstance (de_v 0) T.tuple) (de_isi (n := "tuple") T.isinstance (de_v 1) T.tuple)))))
      (dss_one (ds_ret de_bl))
      dss_nil)
      (dss_one (ds_ret (de_and (de_eq (de_lenL T.len (de_v 0)) (de_lenL T.len (de_v 1))) (de_one (de_all rfl T.all (de_lc (own := [("_law_k", 2)]) rfl sc.nd (di_range1 T.range (de_lenL T.len (de_v 1))) (blkOk_by (N := ["_law_found", "_law_due", "_law_k"]) (sc := defScope (top 7)) (by decide +kernel)) (fun _ _ _ _ _ => (dg_name (i := 2) sc.nd)) (fun _ _ _ _ _ => dts_nil) (fun _ _ _ _ _ => (de_f Cs (hr.mono (by first | exact Nat.le_refl _ | decide | omega)) (da_cons (de_ixQ (de_v 0) (de_v 2)) (da_cons (de_ixQ (de_v 1) (de_v 2)) da_nil)))))))))))
      dss_nil)
      (dss_cons (ds_if (DW.dt (dw_or (dt_ne (de_isi (n := "bool") T.isinstance (de_v 1) T.bool) (de_isi (n := "bool") T.isinstance (de_v 0) T.bool)) (dw_or1 (dt_ne (de_isi (n := "int") T.isinstance (de_v 1) T.int) (de_isi (n := "int") T.isinstance (de_v 0) T.int)))))
      (dss_one (ds_ret de_bl))
      dss_nil)
      (dss_one (ds_ret (de_and (de_eq (de_isi (n := "str") T.isinstance (de_v 1) T.str) (de_isi (n := "str") T.isinstance (de_v 0) T.str)) (de_one (de_eq (de_v 0) (de_v 1)))))))), ?_⟩
    rintro ds S Q ⟨x, y, rfl, hp, q⟩
    have seqs : ∀ (xs ys : List D), ys.length ≤ 100000 → (∀ (i : Nat) x y, xs[i]? = some x → ys[i]? = some y → OkS n x y) → seqOf S x = some xs → seqOf S y = some ys → sameD x y = (decide (xs.length = ys.length) && sameDs xs ys) →
        (wRet (wAndV (wOp fEq (wCB fLenL (wCons (wVar 0) wNil)) (wCB fLenL (wCons (wVar 1) wNil))) (wCB fAll (wCons (wLc (wiR1 (wCB fLenL (wCons (wVar 1) wNil))) (gwName 2) wYes (wCall (pSame n) (wCons (wOp fIxQ (wVar 0) (wVar 2)) (wCons (wOp fIxQ (wVar 1) (wVar 2)) wNil))) [2]) wNil)))) { nx := fun _ _ => False, rt := Pz.Fin K Q } [some x, some y, none] S := by
      intro xs ys hl hok ex ey es
      walk_at "w"
      refine fLenL_to ex (fLenL_to ey ?_)
      have en : decide (((xs.length : Nat) : Int) = ((ys.length : Nat) : Int)) = decide (xs.length = ys.length) := decide_eq_decide.mpr (by omega)
      simp only [fEq, eqS, en]
      rw [es] at q
      by_cases hlen : xs.length = ys.length
      · simp only [hlen, decide_true, Bool.true_and] at q ⊢
        refine fLenL_to ey ?_
        walk_at "w"
        have h100 := sizeLine_big
        refine ⟨by omega, ?_⟩
        rw [Int.toNat_natCast, rangeD_eq]
        refine lc_map (fun k => D.bl (match xs[k]?, ys[k]? with | some x, some y => sameD x y | _, _ => true)) (by rw [List.length_range]; omega) (fun k hk R r => ?_) ?_
        · have hk1 : k < ys.length := List.mem_range.mp hk
          have hk2 : k < xs.length := by omega
          walk_at "w"
          simp only [wipeD, List.set_cons_zero, List.set_cons_succ, List.getElem?_cons_zero, List.getElem?_cons_succ, Int.zero_add]
          refine fIxQ_to ex (atD_nat (List.getElem?_eq_getElem hk2)) (fIxQ_to ey (atD_nat (List.getElem?_eq_getElem hk1)) ?_)
          rw [List.getElem?_eq_getElem hk1, List.getElem?_eq_getElem hk2] at r
          exact ⟨xs[k], ys[k], rfl, hok k _ _ (List.getElem?_eq_getElem hk2) (List.getElem?_eq_getElem hk1), r⟩
        · have e1 : (List.range ys.length).map (fun k => D.bl (match xs[k]?, ys[k]? with | some x, some y => sameD x y | _, _ => true)) = ((List.range ys.length).map fun k => match xs[k]?, ys[k]? with | some x, some y => sameD x y | _, _ => true).map D.bl := by rw [List.map_map]; rfl
          rw [e1]
          simp only [fAll, lstOf, blsOf_map]
          rw [sameDs_all xs ys hlen] at q
          exact Fin.here q
      · simp only [hlen, decide_false, Bool.false_and] at q ⊢
        exact Fin.here q
    refine s_seq ?_
    cases hp with
    | sc hx hy =>
      cases x <;> simp only [isSc, reduceCtorEq] at hx <;> cases y <;> simp only [isSc, reduceCtorEq] at hy
      all_goals
        walk_at "w"
        simp only [fIsi2, tyName, kt_NoneType_list, kt_NoneType_tuple, kt_NoneType_bool, kt_NoneType_int, kt_NoneType_str, kt_bool_list, kt_bool_tuple, kt_bool_bool, kt_bool_int, kt_bool_str, kt_int_list, kt_int_tuple, kt_int_bool, kt_int_int, kt_int_str, kt_str_list, kt_str_tuple, kt_str_bool, kt_str_int, kt_str_str, kt_list_list, kt_list_tuple, kt_list_bool, kt_list_int, kt_list_str, kt_tuple_list, kt_tuple_tuple, kt_tuple_bool, kt_tuple_int, kt_tuple_str, Bool.or_false, Bool.or_self]
        refine s_seq ?_
        walk_at "w"
        simp only [fIsi, tyName, kt_NoneType_list, kt_NoneType_tuple, kt_NoneType_bool, kt_NoneType_int, kt_NoneType_str, kt_bool_list, kt_bool_tuple, kt_bool_bool, kt_bool_int, kt_bool_str, kt_int_list, kt_int_tuple, kt_int_bool, kt_int_int, kt_int_str, kt_str_list, kt_str_tuple, kt_str_bool, kt_str_int, kt_str_str, kt_list_list, kt_list_tuple, kt_list_bool, kt_list_int, kt_list_str, kt_tuple_list, kt_tuple_tuple, kt_tuple_bool, kt_tuple_int, kt_tuple_str, fNe, fEq, eqS, decide_true, decide_false, Bool.not_true, Bool.not_false, reduceCtorEq]
        exact Fin.here q
    | lst hl hok =>
      rename_i xs ys
      walk_at "w"
      simp only [fIsi2, tyName, kt_NoneType_list, kt_NoneType_tuple, kt_NoneType_bool, kt_NoneType_int, kt_NoneType_str, kt_bool_list, kt_bool_tuple, kt_bool_bool, kt_bool_int, kt_bool_str, kt_int_list, kt_int_tuple, kt_int_bool, kt_int_int, kt_int_str, kt_str_list, kt_str_tuple, kt_str_bool, kt_str_int, kt_str_str, kt_list_list, kt_list_tuple, kt_list_bool, kt_list_int, kt_list_str, kt_tuple_list, kt_tuple_tuple, kt_tuple_bool, kt_tuple_int, kt_tuple_str, Bool.or_false]
      refine s_seq ?_
      walk_at "w"
      simp only [fIsi, tyName, kt_NoneType_list, kt_NoneType_tuple, kt_NoneType_bool, kt_NoneType_int, kt_NoneType_str, kt_bool_list, kt_bool_tuple, kt_bool_bool, kt_bool_int, kt_bool_str, kt_int_list, kt_int_tuple, kt_int_bool, kt_int_int, kt_int_str, kt_str_list, kt_str_tuple, kt_str_bool, kt_str_int, kt_str_str, kt_list_list, kt_list_tuple, kt_list_bool, kt_list_int, kt_list_str, kt_tuple_list, kt_tuple_tuple, kt_tuple_bool, kt_tuple_int, kt_tuple_str, fNe, fEq, eqS, decide_true, decide_false, Bool.not_true, Bool.not_false, reduceCtorEq]
      exact seqs xs ys hl hok rfl rfl rfl
    | tup hl hok =>
      rename_i xs ys
      walk_at "w"
      simp only [fIsi2, tyName, kt_NoneType_list, kt_NoneType_tuple, kt_NoneType_bool, kt_NoneType_int, kt_NoneType_str, kt_bool_list, kt_bool_tuple, kt_bool_bool, kt_bool_int, kt_bool_str, kt_int_list, kt_int_tuple, kt_int_bool, kt_int_int, kt_int_str, kt_str_list, kt_str_tuple, kt_str_bool, kt_str_int, kt_str_str, kt_list_list, kt_list_tuple, kt_list_bool, kt_list_int, kt_list_str, kt_tuple_list, kt_tuple_tuple, kt_tuple_bool, kt_tuple_int, kt_tuple_str, Bool.false_or]
      refine s_seq ?_
      walk_at "w"
      simp only [fIsi, tyName, kt_NoneType_list, kt_NoneType_tuple, kt_NoneType_bool, kt_NoneType_int, kt_NoneType_str, kt_bool_list, kt_bool_tuple, kt_bool_bool, kt_bool_int, kt_bool_str, kt_int_list, kt_int_tuple, kt_int_bool, kt_int_int, kt_int_str, kt_str_list, kt_str_tuple, kt_str_bool, kt_str_int, kt_str_str, kt_list_list, kt_list_tuple, kt_list_bool, kt_list_int, kt_list_str, kt_tuple_list, kt_tuple_tuple, kt_tuple_bool, kt_tuple_int, kt_tuple_str, fNe, fEq, eqS, decide_true, decide_false, Bool.not_true, Bool.not_false, reduceCtorEq]
      exact seqs xs ys hl hok rfl rfl rfl
theorem scNames : FnScope ["_law_box_here", "_law_many", "_law_letters", "_law_first", "_law_stride", "_law_stem", "_law_k", "_law_spot", "_law_mixed", "_law_signs", "_law_rows"] ["_law_box_here", "_law_many"] (defScope (top 8)) := ⟨rfl, rfl, rfl, by decide +kernel, rfl, by decide +kernel, by decide +kernel⟩
theorem ok_names (Fn : FnP K "_law_names" (top 8) f fd) (T : Txt mg) (Ct : Callee P w K mg base 1 "_law_take" ["_law_box_here", "_law_many"] pTake) : FnOk P w K mg base CX0 2 f fd ["_law_box_here", "_law_many"] (spP K pNm) := by
  have sc := scNames
  refine fn_pureD Fn scNames (fun ds S Q h => by obtain ⟨b, m, rfl, _⟩ := h; rfl) fun cdv A outer s H E hr => ⟨_, (dss_cons (ds_set (i := 2) sc.nd de_str)
      (dss_cons (ds_asg (de_tup (da_cons (de_f Ct (hr.mono (by first | exact Nat.le_refl _ | decide | omega)) (da_cons (de_v 0) (da_cons de_int da_nil))) (da_cons (de_ixL (de_lst (da_cons de_int (da_cons de_int (da_cons de_int (da_cons de_int (da_cons de_int (da_cons de_int da_nil))))))) (de_f Ct (hr.mono (by first | exact Nat.le_refl _ | decide | omega)) (da_cons (de_v 0) (da_cons de_int da_nil)))) da_nil))) (dg_tup (n := 2) rfl (dgs_cons (dg_name (i := 3) sc.nd) (dgs_cons (dg_name (i := 4) sc.nd) dgs_nil))))
      (dss_cons (ds_set (i := 5) sc.nd (de_join de_str (da_cons (de_lc (own := [("_law_k", 6)]) rfl sc.nd (di_range1 T.range (de_f Ct (hr.mono (by first | exact Nat.le_refl _ | decide | omega)) (da_cons (de_v 0) (da_cons de_int da_nil)))) (blkOk_by (N := ["_law_box_here", "_law_many", "_law_letters", "_law_first", "_law_stride", "_law_stem", "_law_k", "_law_spot", "_law_mixed", "_law_signs", "_law_rows"]) (sc := defScope (top 8)) (by decide +kernel)) (fun _ _ _ _ _ => (dg_name (i := 6) sc.nd)) (fun _ _ _ _ _ => dts_nil) (fun _ _ _ _ _ => (de_ixS (de_v 2) (de_f Ct (hr.mono (by first | exact Nat.le_refl _ | decide | omega)) (da_cons (de_v 0) (da_cons de_int da_nil)))))) da_nil)))
      (dss_cons (ds_asg (de_tup (da_cons (de_f Ct (hr.mono (by first | exact Nat.le_refl _ | decide | omega)) (da_cons (de_v 0) (da_cons (de_add (de_lenS T.len (de_v 5)) de_int) da_nil))) (da_cons (de_f Ct (hr.mono (by first | exact Nat.le_refl _ | decide | omega)) (da_cons (de_v 0) (da_cons de_int da_nil))) da_nil))) (dg_tup (n := 2) rfl (dgs_cons (dg_name (i := 7) sc.nd) (dgs_cons (dg_name (i := 8) sc.nd) dgs_nil))))
      (dss_cons (ds_set (i := 9) sc.nd (de_lc (own := [("_law_k", 6)]) rfl sc.nd (di_range1 T.range (de_v 1)) (blkOk_by (N := ["_law_box_here", "_law_many", "_law_letters", "_law_first", "_law_stride", "_law_stem", "_law_k", "_law_spot", "_law_mixed", "_law_signs", "_law_rows"]) (sc := defScope (top 8)) (by decide +kernel)) (fun _ _ _ _ _ => (dg_name (i := 6) sc.nd)) (fun _ _ _ _ _ => dts_nil) (fun _ _ _ _ _ => (de_ixS (de_v 2) (de_mod (de_add (de_v 3) (de_mul (de_v 4) (de_v 6))) de_int)))))
      (dss_cons (ds_set (i := 10) sc.nd (de_lc (own := [("_law_k", 6)]) rfl sc.nd (di_range1 T.range (de_v 1)) (blkOk_by (N := ["_law_box_here", "_law_many", "_law_letters", "_law_first", "_law_stride", "_law_stem", "_law_k", "_law_spot", "_law_mixed", "_law_signs", "_law_rows"]) (sc := defScope (top 8)) (by decide +kernel)) (fun _ _ _ _ _ => (dg_name (i := 6) sc.nd)) (fun _ _ _ _ _ => dts_nil) (fun _ _ _ _ _ => (de_tup (da_cons (de_addS (de_addS (de_slS (de_v 5) do_none (do_some (de_v 7))) (de_ixL (de_v 9) (de_v 6))) (de_slS (de_v 5) (do_some (de_v 7)) do_none)) (da_cons (de_addS (de_addS (de_ixL (de_v 9) (de_v 6)) (de_slS (de_v 5) do_none (do_some (de_mod (de_v 6) de_int)))) (de_ixL (de_v 9) (de_v 6))) da_nil))))))
      (dss_one (ds_ret (de_lc (own := [("_law_k", 6)]) rfl sc.nd (di_range1 T.range (de_v 1)) (blkOk_by (N := ["_law_box_here", "_law_many", "_law_letters", "_law_first", "_law_stride", "_law_stem", "_law_k", "_law_spot", "_law_mixed", "_law_signs", "_law_rows"]) (sc := defScope (top 8)) (by decide +kernel)) (fun _ _ _ _ _ => (dg_name (i := 6) sc.nd)) (fun _ _ _ _ _ => dts_nil) (fun _ _ _ _ _ => (de_ixT (de_ixL (de_v 10) (de_v 6)) (de_mod (de_mul (de_v 8) (de_v 6)) de_int)))))))))))), ?_⟩
  rintro ds S Q ⟨b, mm, rfl, hB, hmm, k⟩
  have h100 := sizeLine_big
  refine s_seq ?_
  walk_at "w"
  refine s_seq ?_
  walk_at "w"
  -- first, stride
  refine ⟨b, 26, rfl, hB, by decide, by decide, fun first S1 f0 f1 B1 sb1 => ?_⟩
  refine ⟨by decide, b, 6, rfl, B1, by decide, by decide, fun r2 S2 g0 g1 B2 sb2 => ?_⟩
  obtain ⟨d, ed, md⟩ := atD_mem (xs := [D.int 1, .int 3, .int 5, .int 7, .int 9, .int 11]) g0 (by simpa using g1)
  obtain ⟨st, rfl, hst⟩ : ∃ st : Int, d = .int st ∧ (st = 1 ∨ st = 3 ∨ st = 5 ∨ st = 7 ∨ st = 9 ∨ st = 11) := by
    simp only [List.mem_cons, List.not_mem_nil, or_false] at md
    rcases md with rfl | rfl | rfl | rfl | rfl | rfl <;> exact ⟨_, rfl, by decide⟩
  refine fIxL_to (by rfl) ed ?_
  refine ⟨by decide, ?_⟩
  walk_at "w"
  -- stem
  refine s_seq ?_
  walk_at "w"
  refine ⟨rfl, b, 8, rfl, B2, by decide, by decide, fun r3 S3 i0 i1 B3 sb3 => ?_⟩
  refine ⟨⟨by omega, by omega⟩, ?_⟩
  rw [rangeD_eq]
  refine lc_run (J := fun i acc S' => Box S' b ∧ SB b S3 S' ∧ ∃ cs : List Nat, acc = cs.map (fun c => D.str ⟨#[c]⟩) ∧ ∀ c ∈ cs, c ∈ letters) (by rw [List.length_range]; omega) ⟨B3, SB.refl _ _, [], rfl, by simp⟩ ?_ ?_
  · rintro i y acc S' _ hacc ⟨B, sb, cs, rfl, hcs⟩ R hR
    walk_at "w"
    refine ⟨b, 26, rfl, B, by decide, by decide, fun r S'' q0 q1 B' sb' => ?_⟩
    obtain ⟨c, ec, mc⟩ := atI_mem (xs := letters) q0 (by rw [letters_len]; exact q1)
    refine fIxS_to alpha_len ec (hR _ _ ⟨B', sb.trans sb', cs ++ [c], by simp, ?_⟩)
    intro x hx
    rcases List.mem_append.mp hx with hx | hx
    · exact hcs x hx
    · rw [List.mem_singleton.mp hx]; exact mc
  rintro acc S4 hacc ⟨B4, sb4, cs, rfl, hcs⟩
  have hlen : cs.length ≤ 7 := by
    rw [List.length_map, List.length_range] at hacc
    omega
  have e1 : cs.map (fun c => D.str ⟨#[c]⟩) = (cs.map fun c => (⟨#[c]⟩ : Str)).map D.str := by rw [List.map_map]; rfl
  simp only [fJoin, seqOf, e1, strsOf_map]
  refine ⟨?_, ?_⟩
  · rw [List.map_map]
    have e2 := sum_ones cs
    have e3 : ("" : Str).length = 0 := rfl
    rw [e3, Nat.mul_zero]
    omega
  have ecs := codes_join_ones cs
  generalize Txt.join "" (cs.map fun c => (⟨#[c]⟩ : Str)) = stem at ecs ⊢
  have lstem : stem.length ≤ 7 := by rw [← len_codes, ecs]; exact hlen
  -- spot, mixed
  refine s_seq ?_
  walk_at "w"
  simp only [fLenS]
  refine ⟨by omega, b, _, rfl, B4, by omega, by omega, fun spot S5 j0 j1 B5 sb5 => ?_⟩
  refine ⟨b, 2, rfl, B5, by decide, by decide, fun mixed S6 l0 l1 B6 sb6 => ?_⟩
  refine ⟨by decide, ?_⟩
  walk_at "w"
  have sb06 : SB b S S6 := ((((sb1.trans sb2).trans sb3).trans sb4).trans sb5).trans sb6
  obtain ⟨sp, rfl⟩ : ∃ sp : Nat, spot = (sp : Int) := ⟨spot.toNat, by omega⟩
  obtain ⟨mx, rfl⟩ : ∃ mx : Nat, mixed = (mx : Int) := ⟨mixed.toNat, by omega⟩
  -- signs
  refine s_seq ?_
  walk_at "w"
  refine ⟨⟨by omega, by omega⟩, ?_⟩
  rw [rangeD_eq, Int.toNat_natCast]
  refine lc_map (fun k => D.str ⟨#[sgnOf first st k]⟩) (by rw [List.length_range]; omega) (fun y hy R r => ?_) ?_
  · have hy1 : y < mm := List.mem_range.mp hy
    walk_at "w"
    refine ⟨.inl ⟨by omega, by omega⟩, by decide, ?_⟩
    exact fIxS_to alpha_len (sgn_at first st y) r
  -- rows
  refine s_seq ?_
  walk_at "w"
  refine ⟨⟨by omega, by omega⟩, ?_⟩
  rw [rangeD_eq, Int.toNat_natCast]
  refine lc_map (fun k => D.tup [.str (cutS stem none (some (sp : Int)) ++ ⟨#[sgnOf first st k]⟩ ++ cutS stem (some (sp : Int)) none), .str (⟨#[sgnOf first st k]⟩ ++ cutS stem none (some ((k % 3 : Nat) : Int)) ++ ⟨#[sgnOf first st k]⟩)]) (by rw [List.length_range]; omega) (fun y hy R r => ?_) ?_
  · have hy1 : y < mm := List.mem_range.mp hy
    have esg : atD ((List.range mm).map fun k => D.str ⟨#[sgnOf first st k]⟩) (0 + (y : Int)) = some (.str ⟨#[sgnOf first st y]⟩) := by
      rw [Int.zero_add]
      exact atD_nat (by rw [List.getElem?_map, List.getElem?_range hy1]; rfl)
    generalize sgnOf first st y = c at esg r ⊢
    have lc1 := len_cut stem none (some (sp : Int))
    have lc2 := len_cut stem (some (sp : Int)) none
    have l1 := len_one c
    walk_at "w"
    refine fSlS_to (by omega) ?_
    refine fIxL_to (by rfl) esg ?_
    refine fAddS_to (by omega) ?_
    refine fSlS_to (by omega) ?_
    refine fAddS_to (by rw [len_app]; omega) ?_
    refine fIxL_to (by rfl) esg ?_
    refine ⟨by decide, ?_⟩
    have ey : (0 + (y : Int)) % 3 = ((y % 3 : Nat) : Int) := by omega
    rw [ey]
    have lc3 := len_cut stem none (some ((y % 3 : Nat) : Int))
    refine fSlS_to (by omega) ?_
    refine fAddS_to (by omega) ?_
    refine fIxL_to (by rfl) esg ?_
    refine fAddS_to (by rw [len_app]; omega) ?_
    exact ⟨by decide, r⟩
  -- the names
  walk_at "w"
  refine ⟨⟨by omega, by omega⟩, ?_⟩
  try simp only [rangeD_eq, Int.toNat_natCast]
  refine lc_map (fun k => D.str (nmS cs sp mx (sgnOf first st) k)) (by rw [List.length_range]; omega) (fun y hy R r => ?_) ?_
  · have hy1 : y < mm := List.mem_range.mp hy
    walk_at "w"
    rw [Int.zero_add]
    refine fIxL_to (by rfl) (atD_nat (by rw [List.getElem?_map, List.getElem?_range hy1]; rfl)) ?_
    refine ⟨.inl ⟨by omega, by omega⟩, by decide, ?_⟩
    have hz : ((mx : Int) * (y : Int) % 2 = 0 ∧ mx * y % 2 = 0) ∨ ((mx : Int) * (y : Int) % 2 = 1 ∧ ¬ mx * y % 2 = 0) := by
      have : (mx : Int) * (y : Int) = ((mx * y : Nat) : Int) := by rw [Int.natCast_mul]
      rw [this]
      omega
    rcases hz with ⟨hz, hz'⟩ | ⟨hz, hz'⟩
    · rw [hz]
      refine fIxT_to (by rfl) ?_
      have e : nmS cs sp mx (sgnOf first st) y = cutS stem none (some (sp : Int)) ++ ⟨#[sgnOf first st y]⟩ ++ cutS stem (some (sp : Int)) none := by
        refine str_ext ?_
        rw [codes_app, codes_app, codes_one, cut_to, cut_from, ecs]
        show nmOf cs sp mx (sgnOf first st) y = _
        unfold nmOf
        rw [if_pos hz']
      rw [e] at r
      exact r
    · rw [hz]
      refine fIxT_to (by rfl) ?_
      have e : nmS cs sp mx (sgnOf first st) y = ⟨#[sgnOf first st y]⟩ ++ cutS stem none (some ((y % 3 : Nat) : Int)) ++ ⟨#[sgnOf first st y]⟩ := by
        refine str_ext ?_
        rw [codes_app, codes_app, codes_one, cut_to, ecs]
        show nmOf cs sp mx (sgnOf first st) y = _
        unfold nmOf
        rw [if_neg hz']
      rw [e] at r
      exact r
  · have e : (List.range mm).map (fun k => D.str (nmS cs sp mx (sgnOf first st) k)) = ((List.range mm).map (nmS cs sp mx (sgnOf first st))).map D.str := by rw [List.map_map]; rfl
    rw [e]
    refine Fin.here (k _ _ ⟨cs, sp, mx, sgnOf first st, ⟨hlen, hcs, ?_, by omega, fun k _ => sgn_mem _ _ _, fun j k hj hk => sgn_inj hst (by omega) (by omega)⟩, rfl⟩ B6 sb06)
    rw [← ecs, len_codes]
    omega
end
end K50

set_option Elab.async false
set_option linter.all false
set_option maxRecDepth 100000
set_option maxHeartbeats 4000000
/-! sorts and words as plain data, their texts -/
namespace K50
open PySem PySem.Spec PyProof.Rows L2 Pz
inductive So where
  | num | truth | row (a : So) | pair (a b : So) | fn (a b : So)
namespace So
def toD : So → D
  | num => .tup [.str "num"]
  | truth => .tup [.str "truth"]
  | row a => .tup [.str "row", a.toD]
  | pair a b => .tup [.str "pair", a.toD, b.toD]
  | fn a b => .tup [.str "fun", a.toD, b.toD]
def py : So → PyData
  | num => .tuple [.str "num"]
  | truth => .tuple [.str "truth"]
  | row a => .tuple [.str "row", a.py]
  | pair a b => .tuple [.str "pair", a.py, b.py]
  | fn a b => .tuple [.str "fun", a.py, b.py]
def txt : So → Str
  | num => "num"
  | truth => "truth"
  | row a => "[" ++ a.txt ++ "]"
  | pair a b => "(" ++ a.txt ++ ", " ++ b.txt ++ ")"
  | fn a b => "(" ++ a.txt ++ " > " ++ b.txt ++ ")"
def dp : So → Nat
  | num => 1
  | truth => 1
  | row a => a.dp + 1
  | pair a b => max a.dp b.dp + 1
  | fn a b => max a.dp b.dp + 1
theorem dp_pos : ∀ s : So, 1 ≤ s.dp
  | num => Nat.le_refl _
  | truth => Nat.le_refl _
  | row a => Nat.le_add_left _ _
  | pair a b => Nat.le_add_left _ _
  | fn a b => Nat.le_add_left _ _
theorem toPy_is : ∀ s : So, toPy s.toD = some s.py
  | num => rfl
  | truth => rfl
  | row a => by simp [toD, py, toPy, toPys, toPy_is a]
  | pair a b => by simp [toD, py, toPy, toPys, toPy_is a, toPy_is b]
  | fn a b => by simp [toD, py, toPy, toPys, toPy_is a, toPy_is b]
theorem len : ∀ (s : So) (n : Nat), s.dp ≤ n → s.txt.length + 5 ≤ 10 * 2 ^ n
  | num, n, _ => by have := Nat.one_le_two_pow (n := n); show (3 + 5 : Nat) ≤ _; omega
  | truth, n, _ => by have := Nat.one_le_two_pow (n := n); show (5 + 5 : Nat) ≤ _; omega
  | row a, 0, h => by simp only [dp] at h; omega
  | row a, n + 1, h => by
    have := len a n (by simp only [dp] at h; omega)
    show ("[" ++ a.txt ++ "]" : Str).length + 5 ≤ _
    rw [len_app, len_app]
    show 1 + _ + 1 + 5 ≤ _
    rw [Nat.pow_succ]
    omega
  | pair a b, 0, h => by simp only [dp] at h; omega
  | pair a b, n + 1, h => by
    have := len a n (by simp only [dp] at h; omega)
    have := len b n (by simp only [dp] at h; omega)
    show ("(" ++ a.txt ++ ", " ++ b.txt ++ ")" : Str).length + 5 ≤ _
    rw [len_app, len_app, len_app, len_app]
    show 1 + _ + 2 + _ + 1 + 5 ≤ _
    rw [Nat.pow_succ]
    omega
  | fn a b, 0, h => by simp only [dp] at h; omega
  | fn a b, n + 1, h => by
    have := len a n (by simp only [dp] at h; omega)
    have := len b n (by simp only [dp] at h; omega)
    show ("(" ++ a.txt ++ " > " ++ b.txt ++ ")" : Str).length + 5 ≤ _
    rw [len_app, len_app, len_app, len_app]
    show 1 + _ + 3 + _ + 1 + 5 ≤ _
    rw [Nat.pow_succ]
    omega
theorem len12 (s : So) (h : s.dp ≤ 12) : s.txt.length ≤ 40955 := by have := s.len 12 h; omega
def isNum : So → Bool
  | num => true
  | _ => false
def isTruth : So → Bool
  | truth => true
  | _ => false
theorem eq_num (s : So) : PyData.eqv s.py (.tuple [.str "num"]) = s.isNum := by cases s <;> first | decide +kernel | simp [py, PyData.eqv, PyData.eqvAll, isNum, isTruth]
theorem eq_truth (s : So) : PyData.eqv s.py (.tuple [.str "truth"]) = s.isTruth := by cases s <;> first | decide +kernel | simp [py, PyData.eqv, PyData.eqvAll, isNum, isTruth]
theorem py_dp : ∀ s : So, s.py.depth ≤ s.dp + 1
  | num => by decide
  | truth => by decide
  | row a => by have := py_dp a; simp only [py, dp, PyData.depth, PyData.depthAll]; omega
  | pair a b => by have := py_dp a; have := py_dp b; simp only [py, dp, PyData.depth, PyData.depthAll]; omega
  | fn a b => by have := py_dp a; have := py_dp b; simp only [py, dp, PyData.depth, PyData.depthAll]; omega
end So
inductive Bi where
  | plus | times | below | pair | put | join | call
def Bi.nm : Bi → Str
  | plus => "plus" | times => "times" | below => "below" | pair => "pair" | put => "put" | join => "join" | call => "call"
def Bi.sg : Bi → Str
  | plus => " + " | times => " * " | below => " < " | pair => ", " | put => " : " | join => " ++ " | call => " "
inductive Un where
  | total | size
def Un.nm : Un → Str
  | total => "total" | size => "size"
inductive Wd where
  | num (n : Nat) | name (x : Str) | yes | no | none (s : So) | choose (a b c : Wd) | lt (x : Str) (a b : Wd) | split (x y : Str) (a b : Wd) | give (x : Str) (s : So) (a : Wd) | un (u : Un) (a : Wd) | bin (o : Bi) (a b : Wd)
def numS (i : Int) : Str := toString i
namespace Wd
def toD : Wd → D
  | num n => .tup [.str "num", .int (n : Int)]
  | name x => .tup [.str "name", .str x]
  | yes => .tup [.str "yes"]
  | no => .tup [.str "no"]
  | none s => .tup [.str "none", s.toD]
  | choose a b c => .tup [.str "choose", a.toD, b.toD, c.toD]
  | lt x a b => .tup [.str "let", .str x, a.toD, b.toD]
  | split x y a b => .tup [.str "split", .str x, .str y, a.toD, b.toD]
  | give x s a => .tup [.str "give", .str x, s.toD, a.toD]
  | un u a => .tup [.str u.nm, a.toD]
  | bin o a b => .tup [.str o.nm, a.toD, b.toD]
def kids : Wd → List Wd
  | num _ => [] | name _ => [] | yes => [] | no => [] | none _ => []
  | choose a b c => [a, b, c]
  | lt _ a b => [a, b]
  | split _ _ a b => [a, b]
  | give _ _ a => [a]
  | un _ a => [a]
  | bin _ a b => [a, b]
def txt : Wd → Str
  | num n => numS (n : Int)
  | name x => x
  | yes => "yes"
  | no => "no"
  | none s => "none " ++ s.txt
  | choose a b c => "if " ++ a.txt ++ " then " ++ b.txt ++ " else " ++ c.txt
  | lt x a b => "let " ++ x ++ " = " ++ a.txt ++ " in " ++ b.txt
  | split x y a b => "split " ++ x ++ " " ++ y ++ " = " ++ a.txt ++ " in " ++ b.txt
  | give x s a => "give " ++ x ++ " " ++ s.txt ++ " to " ++ a.txt
  | un u a => u.nm ++ " " ++ a.txt
  | bin o a b => "(" ++ a.txt ++ o.sg ++ b.txt ++ ")"
/-- nodes -/
def sz : Wd → Nat
  | num _ => 1 | name _ => 1 | yes => 1 | no => 1 | none _ => 1
  | choose a b c => a.sz + b.sz + c.sz + 1
  | lt _ a b => a.sz + b.sz + 1
  | split _ _ a b => a.sz + b.sz + 1
  | give _ _ a => a.sz + 1
  | un _ a => a.sz + 1
  | bin _ a b => a.sz + b.sz + 1
/-- depth, sorts in it counted -/
def dp : Wd → Nat
  | num _ => 1 | name _ => 1 | yes => 1 | no => 1
  | none s => s.dp + 1
  | choose a b c => max (max a.dp b.dp) c.dp + 1
  | lt _ a b => max a.dp b.dp + 1
  | split _ _ a b => max a.dp b.dp + 1
  | give _ s a => max s.dp a.dp + 1
  | un _ a => a.dp + 1
  | bin _ a b => max a.dp b.dp + 1
/-- small names, small numbers, small sorts -/
def good : Wd → Prop
  | num n => n ≤ 9
  | name x => x.length ≤ 8
  | yes => True
  | no => True
  | none s => s.dp ≤ 6
  | choose a b c => a.good ∧ b.good ∧ c.good
  | lt x a b => x.length ≤ 8 ∧ a.good ∧ b.good
  | split x y a b => x.length ≤ 8 ∧ y.length ≤ 8 ∧ a.good ∧ b.good
  | give x s a => x.length ≤ 8 ∧ s.dp ≤ 6 ∧ a.good
  | un _ a => a.good
  | bin _ a b => a.good ∧ b.good
theorem sz_pos : ∀ w : Wd, 1 ≤ w.sz
  | num _ => Nat.le_refl _ | name _ => Nat.le_refl _ | yes => Nat.le_refl _ | no => Nat.le_refl _ | none _ => Nat.le_refl _
  | choose _ _ _ => Nat.le_add_left _ _
  | lt _ _ _ => Nat.le_add_left _ _
  | split _ _ _ _ => Nat.le_add_left _ _
  | give _ _ _ => Nat.le_add_left _ _
  | un _ _ => Nat.le_add_left _ _
  | bin _ _ _ => Nat.le_add_left _ _
theorem numS_len : ∀ n : Nat, n ≤ 9 → (numS (n : Int)).length ≤ 8 := by decide +kernel
theorem sl6 {s : So} (h : s.dp ≤ 6) : s.txt.length ≤ 635 := by have := s.len 6 h; omega
/-- a text is short -/
theorem len : ∀ w : Wd, w.good → w.txt.length ≤ 700 * w.sz
  | num n, h => by have := numS_len n h; show (numS n).length ≤ 700 * 1; omega
  | name x, h => by have h1 : x.length ≤ 8 := h; show x.length ≤ 700 * 1; omega
  | yes, _ => by decide +kernel
  | no, _ => by decide +kernel
  | none s, h => by
    have := sl6 (show s.dp ≤ 6 from h)
    show ("none " ++ s.txt : Str).length ≤ 700 * 1
    rw [len_app]
    show 5 + _ ≤ _
    omega
  | choose a b c, h => by
    obtain ⟨h1, h2, h3⟩ := h
    have := len a h1; have := len b h2; have := len c h3
    show ("if " ++ a.txt ++ " then " ++ b.txt ++ " else " ++ c.txt : Str).length ≤ 700 * (a.sz + b.sz + c.sz + 1)
    simp only [len_app]
    show 3 + _ + 6 + _ + 6 + _ ≤ _
    omega
  | lt x a b, h => by
    obtain ⟨h1, h2, h3⟩ := h
    have := len a h2; have := len b h3
    show ("let " ++ x ++ " = " ++ a.txt ++ " in " ++ b.txt : Str).length ≤ 700 * (a.sz + b.sz + 1)
    simp only [len_app]
    show 4 + _ + 3 + _ + 4 + _ ≤ _
    omega
  | split x y a b, h => by
    obtain ⟨h1, h1', h2, h3⟩ := h
    have := len a h2; have := len b h3
    show ("split " ++ x ++ " " ++ y ++ " = " ++ a.txt ++ " in " ++ b.txt : Str).length ≤ 700 * (a.sz + b.sz + 1)
    simp only [len_app]
    show 6 + _ + 1 + _ + 3 + _ + 4 + _ ≤ _
    omega
  | give x s a, h => by
    obtain ⟨h1, h2, h3⟩ := h
    have := len a h3; have := sl6 h2
    show ("give " ++ x ++ " " ++ s.txt ++ " to " ++ a.txt : Str).length ≤ 700 * (a.sz + 1)
    simp only [len_app]
    show 5 + _ + 1 + _ + 4 + _ ≤ _
    omega
  | un u a, h => by
    have := len a h
    have hu : u.nm.length ≤ 5 := by cases u <;> decide +kernel
    show (u.nm ++ " " ++ a.txt : Str).length ≤ 700 * (a.sz + 1)
    simp only [len_app]
    show _ + 1 + _ ≤ _
    omega
  | bin o a b, h => by
    obtain ⟨h1, h2⟩ := h
    have := len a h1; have := len b h2
    have ho : o.sg.length ≤ 4 := by cases o <;> decide +kernel
    show ("(" ++ a.txt ++ o.sg ++ b.txt ++ ")" : Str).length ≤ 700 * (a.sz + b.sz + 1)
    simp only [len_app]
    show 1 + _ + _ + _ + 1 ≤ _
    omega
theorem kid_good : ∀ (w : Wd), w.good → ∀ k ∈ w.kids, k.good
  | num _, _, k, hk => by cases hk
  | name _, _, k, hk => by cases hk
  | yes, _, k, hk => by cases hk
  | no, _, k, hk => by cases hk
  | none _, _, k, hk => by cases hk
  | choose a b c, h, k, hk => by
    simp only [kids, List.mem_cons, List.not_mem_nil, or_false] at hk
    rcases hk with rfl | rfl | rfl
    · exact h.1
    · exact h.2.1
    · exact h.2.2
  | lt x a b, h, k, hk => by
    simp only [kids, List.mem_cons, List.not_mem_nil, or_false] at hk
    rcases hk with rfl | rfl
    · exact h.2.1
    · exact h.2.2
  | split x y a b, h, k, hk => by
    simp only [kids, List.mem_cons, List.not_mem_nil, or_false] at hk
    rcases hk with rfl | rfl
    · exact h.2.2.1
    · exact h.2.2.2
  | give x s a, h, k, hk => by
    simp only [kids, List.mem_cons, List.not_mem_nil, or_false] at hk
    rw [hk]
    exact h.2.2
  | un u a, h, k, hk => by
    simp only [kids, List.mem_cons, List.not_mem_nil, or_false] at hk
    rw [hk]
    exact h
  | bin o a b, h, k, hk => by
    simp only [kids, List.mem_cons, List.not_mem_nil, or_false] at hk
    rcases hk with rfl | rfl
    · exact h.1
    · exact h.2
theorem kid_dp (w : Wd) : ∀ k ∈ w.kids, k.dp + 1 ≤ w.dp := by
  intro k hk
  cases w <;> simp only [kids, List.mem_cons, List.not_mem_nil, or_false] at hk <;> simp only [dp]
  · rcases hk with rfl | rfl | rfl <;> omega
  · rcases hk with rfl | rfl <;> omega
  · rcases hk with rfl | rfl <;> omega
  · subst hk; omega
  · subst hk; omega
  · rcases hk with rfl | rfl <;> omega
theorem kid_sz (w : Wd) : (w.kids.map sz).sum + 1 = w.sz := by
  cases w <;> simp [kids, sz] <;> omega
theorem kid_sz1 (w : Wd) : ∀ k ∈ w.kids, k.sz + 1 ≤ w.sz := by
  intro k hk
  cases w <;> simp only [kids, List.mem_cons, List.not_mem_nil, or_false] at hk <;> simp only [sz]
  · rcases hk with rfl | rfl | rfl <;> omega
  · rcases hk with rfl | rfl <;> omega
  · rcases hk with rfl | rfl <;> omega
  · subst hk; omega
  · subst hk; omega
  · rcases hk with rfl | rfl <;> omega
end Wd
end K50

set_option Elab.async false
set_option linter.all false
set_option maxRecDepth 100000
set_option maxHeartbeats 4000000
namespace K50
open PySem PySem.Spec PyProof.Rows L2 Pz
theorem ne_num : (("num" : Str) = "name" ↔ False) ∧ (("num" : Str) = "yes" ↔ False) ∧ (("num" : Str) = "no" ↔ False) ∧ (("num" : Str) = "none" ↔ False) ∧ (("num" : Str) = "choose" ↔ False) ∧ (("num" : Str) = "let" ↔ False) ∧ (("num" : Str) = "split" ↔ False) ∧ (("num" : Str) = "give" ↔ False) ∧ (("num" : Str) = "total" ↔ False) ∧ (("num" : Str) = "size" ↔ False) ∧ (("num" : Str) = "plus" ↔ False) ∧ (("num" : Str) = "times" ↔ False) ∧ (("num" : Str) = "below" ↔ False) ∧ (("num" : Str) = "pair" ↔ False) ∧ (("num" : Str) = "put" ↔ False) ∧ (("num" : Str) = "join" ↔ False) ∧ (("num" : Str) = "call" ↔ False) ∧ (("num" : Str) = "row" ↔ False) ∧ (("num" : Str) = "fun" ↔ False) ∧ (("num" : Str) = "truth" ↔ False) := by decide +kernel
theorem ne_name : (("name" : Str) = "num" ↔ False) ∧ (("name" : Str) = "yes" ↔ False) ∧ (("name" : Str) = "no" ↔ False) ∧ (("name" : Str) = "none" ↔ False) ∧ (("name" : Str) = "choose" ↔ False) ∧ (("name" : Str) = "let" ↔ False) ∧ (("name" : Str) = "split" ↔ False) ∧ (("name" : Str) = "give" ↔ False) ∧ (("name" : Str) = "total" ↔ False) ∧ (("name" : Str) = "size" ↔ False) ∧ (("name" : Str) = "plus" ↔ False) ∧ (("name" : Str) = "times" ↔ False) ∧ (("name" : Str) = "below" ↔ False) ∧ (("name" : Str) = "pair" ↔ False) ∧ (("name" : Str) = "put" ↔ False) ∧ (("name" : Str) = "join" ↔ False) ∧ (("name" : Str) = "call" ↔ False) ∧ (("name" : Str) = "row" ↔ False) ∧ (("name" : Str) = "fun" ↔ False) ∧ (("name" : Str) = "truth" ↔ False) := by decide +kernel
theorem ne_yes : (("yes" : Str) = "num" ↔ False) ∧ (("yes" : Str) = "name" ↔ False) ∧ (("yes" : Str) = "no" ↔ False) ∧ (("yes" : Str) = "none" ↔ False) ∧ (("yes" : Str) = "choose" ↔ False) ∧ (("yes" : Str) = "let" ↔ False) ∧ (("yes" : Str) = "split" ↔ False) ∧ (("yes" : Str) = "give" ↔ False) ∧ (("yes" : Str) = "total" ↔ False) ∧ (("yes" : Str) = "size" ↔ False) ∧ (("yes" : Str) = "plus" ↔ False) ∧ (("yes" : Str) = "times" ↔ False) ∧ (("yes" : Str) = "below" ↔ False) ∧ (("yes" : Str) = "pair" ↔ False) ∧ (("yes" : Str) = "put" ↔ False) ∧ (("yes" : Str) = "join" ↔ False) ∧ (("yes" : Str) = "call" ↔ False) ∧ (("yes" : Str) = "row" ↔ False) ∧ (("yes" : Str) = "fun" ↔ False) ∧ (("yes" : Str) = "truth" ↔ False) := by decide +kernel
theorem ne_no : (("no" : Str) = "num" ↔ False) ∧ (("no" : Str) = "name" ↔ False) ∧ (("no" : Str) = "yes" ↔ False) ∧ (("no" : Str) = "none" ↔ False) ∧ (("no" : Str) = "choose" ↔ False) ∧ (("no" : Str) = "let" ↔ False) ∧ (("no" : Str) = "split" ↔ False) ∧ (("no" : Str) = "give" ↔ False) ∧ (("no" : Str) = "total" ↔ False) ∧ (("no" : Str) = "size" ↔ False) ∧ (("no" : Str) = "plus" ↔ False) ∧ (("no" : Str) = "times" ↔ False) ∧ (("no" : Str) = "below" ↔ False) ∧ (("no" : Str) = "pair" ↔ False) ∧ (("no" : Str) = "put" ↔ False) ∧ (("no" : Str) = "join" ↔ False) ∧ (("no" : Str) = "call" ↔ False) ∧ (("no" : Str) = "row" ↔ False) ∧ (("no" : Str) = "fun" ↔ False) ∧ (("no" : Str) = "truth" ↔ False) := by decide +kernel
theorem ne_none : (("none" : Str) = "num" ↔ False) ∧ (("none" : Str) = "name" ↔ False) ∧ (("none" : Str) = "yes" ↔ False) ∧ (("none" : Str) = "no" ↔ False) ∧ (("none" : Str) = "choose" ↔ False) ∧ (("none" : Str) = "let" ↔ False) ∧ (("none" : Str) = "split" ↔ False) ∧ (("none" : Str) = "give" ↔ False) ∧ (("none" : Str) = "total" ↔ False) ∧ (("none" : Str) = "size" ↔ False) ∧ (("none" : Str) = "plus" ↔ False) ∧ (("none" : Str) = "times" ↔ False) ∧ (("none" : Str) = "below" ↔ False) ∧ (("none" : Str) = "pair" ↔ False) ∧ (("none" : Str) = "put" ↔ False) ∧ (("none" : Str) = "join" ↔ False) ∧ (("none" : Str) = "call" ↔ False) ∧ (("none" : Str) = "row" ↔ False) ∧ (("none" : Str) = "fun" ↔ False) ∧ (("none" : Str) = "truth" ↔ False) := by decide +kernel
theorem ne_choose : (("choose" : Str) = "num" ↔ False) ∧ (("choose" : Str) = "name" ↔ False) ∧ (("choose" : Str) = "yes" ↔ False) ∧ (("choose" : Str) = "no" ↔ False) ∧ (("choose" : Str) = "none" ↔ False) ∧ (("choose" : Str) = "let" ↔ False) ∧ (("choose" : Str) = "split" ↔ False) ∧ (("choose" : Str) = "give" ↔ False) ∧ (("choose" : Str) = "total" ↔ False) ∧ (("choose" : Str) = "size" ↔ False) ∧ (("choose" : Str) = "plus" ↔ False) ∧ (("choose" : Str) = "times" ↔ False) ∧ (("choose" : Str) = "below" ↔ False) ∧ (("choose" : Str) = "pair" ↔ False) ∧ (("choose" : Str) = "put" ↔ False) ∧ (("choose" : Str) = "join" ↔ False) ∧ (("choose" : Str) = "call" ↔ False) ∧ (("choose" : Str) = "row" ↔ False) ∧ (("choose" : Str) = "fun" ↔ False) ∧ (("choose" : Str) = "truth" ↔ False) := by decide +kernel
theorem ne_let : (("let" : Str) = "num" ↔ False) ∧ (("let" : Str) = "name" ↔ False) ∧ (("let" : Str) = "yes" ↔ False) ∧ (("let" : Str) = "no" ↔ False) ∧ (("let" : Str) = "none" ↔ False) ∧ (("let" : Str) = "choose" ↔ False) ∧ (("let" : Str) = "split" ↔ False) ∧ (("let" : Str) = "give" ↔ False) ∧ (("let" : Str) = "total" ↔ False) ∧ (("let" : Str) = "size" ↔ False) ∧ (("let" : Str) = "plus" ↔ False) ∧ (("let" : Str) = "times" ↔ False) ∧ (("let" : Str) = "below" ↔ False) ∧ (("let" : Str) = "pair" ↔ False) ∧ (("let" : Str) = "put" ↔ False) ∧ (("let" : Str) = "join" ↔ False) ∧ (("let" : Str) = "call" ↔ False) ∧ (("let" : Str) = "row" ↔ False) ∧ (("let" : Str) = "fun" ↔ False) ∧ (("let" : Str) = "truth" ↔ False) := by decide +kernel
theorem ne_split : (("split" : Str) = "num" ↔ False) ∧ (("split" : Str) = "name" ↔ False) ∧ (("split" : Str) = "yes" ↔ False) ∧ (("split" : Str) = "no" ↔ False) ∧ (("split" : Str) = "none" ↔ False) ∧ (("split" : Str) = "choose" ↔ False) ∧ (("split" : Str) = "let" ↔ False) ∧ (("split" : Str) = "give" ↔ False) ∧ (("split" : Str) = "total" ↔ False) ∧ (("split" : Str) = "size" ↔ False) ∧ (("split" : Str) = "plus" ↔ False) ∧ (("split" : Str) = "times" ↔ False) ∧ (("split" : Str) = "below" ↔ False) ∧ (("split" : Str) = "pair" ↔ False) ∧ (("split" : Str) = "put" ↔ False) ∧ (("split" : Str) = "join" ↔ False) ∧ (("split" : Str) = "call" ↔ False) ∧ (("split" : Str) = "row" ↔ False) ∧ (("split" : Str) = "fun" ↔ False) ∧ (("split" : Str) = "truth" ↔ False) := by decide +kernel
theorem ne_give : (("give" : Str) = "num" ↔ False) ∧ (("give" : Str) = "name" ↔ False) ∧ (("give" : Str) = "yes" ↔ False) ∧ (("give" : Str) = "no" ↔ False) ∧ (("give" : Str) = "none" ↔ False) ∧ (("give" : Str) = "choose" ↔ False) ∧ (("give" : Str) = "let" ↔ False) ∧ (("give" : Str) = "split" ↔ False) ∧ (("give" : Str) = "total" ↔ False) ∧ (("give" : Str) = "size" ↔ False) ∧ (("give" : Str) = "plus" ↔ False) ∧ (("give" : Str) = "times" ↔ False) ∧ (("give" : Str) = "below" ↔ False) ∧ (("give" : Str) = "pair" ↔ False) ∧ (("give" : Str) = "put" ↔ False) ∧ (("give" : Str) = "join" ↔ False) ∧ (("give" : Str) = "call" ↔ False) ∧ (("give" : Str) = "row" ↔ False) ∧ (("give" : Str) = "fun" ↔ False) ∧ (("give" : Str) = "truth" ↔ False) := by decide +kernel
theorem ne_total : (("total" : Str) = "num" ↔ False) ∧ (("total" : Str) = "name" ↔ False) ∧ (("total" : Str) = "yes" ↔ False) ∧ (("total" : Str) = "no" ↔ False) ∧ (("total" : Str) = "none" ↔ False) ∧ (("total" : Str) = "choose" ↔ False) ∧ (("total" : Str) = "let" ↔ False) ∧ (("total" : Str) = "split" ↔ False) ∧ (("total" : Str) = "give" ↔ False) ∧ (("total" : Str) = "size" ↔ False) ∧ (("total" : Str) = "plus" ↔ False) ∧ (("total" : Str) = "times" ↔ False) ∧ (("total" : Str) = "below" ↔ False) ∧ (("total" : Str) = "pair" ↔ False) ∧ (("total" : Str) = "put" ↔ False) ∧ (("total" : Str) = "join" ↔ False) ∧ (("total" : Str) = "call" ↔ False) ∧ (("total" : Str) = "row" ↔ False) ∧ (("total" : Str) = "fun" ↔ False) ∧ (("total" : Str) = "truth" ↔ False) := by decide +kernel
theorem ne_size : (("size" : Str) = "num" ↔ False) ∧ (("size" : Str) = "name" ↔ False) ∧ (("size" : Str) = "yes" ↔ False) ∧ (("size" : Str) = "no" ↔ False) ∧ (("size" : Str) = "none" ↔ False) ∧ (("size" : Str) = "choose" ↔ False) ∧ (("size" : Str) = "let" ↔ False) ∧ (("size" : Str) = "split" ↔ False) ∧ (("size" : Str) = "give" ↔ False) ∧ (("size" : Str) = "total" ↔ False) ∧ (("size" : Str) = "plus" ↔ False) ∧ (("size" : Str) = "times" ↔ False) ∧ (("size" : Str) = "below" ↔ False) ∧ (("size" : Str) = "pair" ↔ False) ∧ (("size" : Str) = "put" ↔ False) ∧ (("size" : Str) = "join" ↔ False) ∧ (("size" : Str) = "call" ↔ False) ∧ (("size" : Str) = "row" ↔ False) ∧ (("size" : Str) = "fun" ↔ False) ∧ (("size" : Str) = "truth" ↔ False) := by decide +kernel
theorem ne_plus : (("plus" : Str) = "num" ↔ False) ∧ (("plus" : Str) = "name" ↔ False) ∧ (("plus" : Str) = "yes" ↔ False) ∧ (("plus" : Str) = "no" ↔ False) ∧ (("plus" : Str) = "none" ↔ False) ∧ (("plus" : Str) = "choose" ↔ False) ∧ (("plus" : Str) = "let" ↔ False) ∧ (("plus" : Str) = "split" ↔ False) ∧ (("plus" : Str) = "give" ↔ False) ∧ (("plus" : Str) = "total" ↔ False) ∧ (("plus" : Str) = "size" ↔ False) ∧ (("plus" : Str) = "times" ↔ False) ∧ (("plus" : Str) = "below" ↔ False) ∧ (("plus" : Str) = "pair" ↔ False) ∧ (("plus" : Str) = "put" ↔ False) ∧ (("plus" : Str) = "join" ↔ False) ∧ (("plus" : Str) = "call" ↔ False) ∧ (("plus" : Str) = "row" ↔ False) ∧ (("plus" : Str) = "fun" ↔ False) ∧ (("plus" : Str) = "truth" ↔ False) := by decide +kernel
theorem ne_times : (("times" : Str) = "num" ↔ False) ∧ (("times" : Str) = "name" ↔ False) ∧ (("times" : Str) = "yes" ↔ False) ∧ (("times" : Str) = "no" ↔ False) ∧ (("times" : Str) = "none" ↔ False) ∧ (("times" : Str) = "choose" ↔ False) ∧ (("times" : Str) = "let" ↔ False) ∧ (("times" : Str) = "split" ↔ False) ∧ (("times" : Str) = "give" ↔ False) ∧ (("times" : Str) = "total" ↔ False) ∧ (("times" : Str) = "size" ↔ False) ∧ (("times" : Str) = "plus" ↔ False) ∧ (("times" : Str) = "below" ↔ False) ∧ (("times" : Str) = "pair" ↔ False) ∧ (("times" : Str) = "put" ↔ False) ∧ (("times" : Str) = "join" ↔ False) ∧ (("times" : Str) = "call" ↔ False) ∧ (("times" : Str) = "row" ↔ False) ∧ (("times" : Str) = "fun" ↔ False) ∧ (("times" : Str) = "truth" ↔ False) := by decide +kernel
theorem ne_below : (("below" : Str) = "num" ↔ False) ∧ (("below" : Str) = "name" ↔ False) ∧ (("below" : Str) = "yes" ↔ False) ∧ (("below" : Str) = "no" ↔ False) ∧ (("below" : Str) = "none" ↔ False) ∧ (("below" : Str) = "choose" ↔ False) ∧ (("below" : Str) = "let" ↔ False) ∧ (("below" : Str) = "split" ↔ False) ∧ (("below" : Str) = "give" ↔ False) ∧ (("below" : Str) = "total" ↔ False) ∧ (("below" : Str) = "size" ↔ False) ∧ (("below" : Str) = "plus" ↔ False) ∧ (("below" : Str) = "times" ↔ False) ∧ (("below" : Str) = "pair" ↔ False) ∧ (("below" : Str) = "put" ↔ False) ∧ (("below" : Str) = "join" ↔ False) ∧ (("below" : Str) = "call" ↔ False) ∧ (("below" : Str) = "row" ↔ False) ∧ (("below" : Str) = "fun" ↔ False) ∧ (("below" : Str) = "truth" ↔ False) := by decide +kernel
theorem ne_pair : (("pair" : Str) = "num" ↔ False) ∧ (("pair" : Str) = "name" ↔ False) ∧ (("pair" : Str) = "yes" ↔ False) ∧ (("pair" : Str) = "no" ↔ False) ∧ (("pair" : Str) = "none" ↔ False) ∧ (("pair" : Str) = "choose" ↔ False) ∧ (("pair" : Str) = "let" ↔ False) ∧ (("pair" : Str) = "split" ↔ False) ∧ (("pair" : Str) = "give" ↔ False) ∧ (("pair" : Str) = "total" ↔ False) ∧ (("pair" : Str) = "size" ↔ False) ∧ (("pair" : Str) = "plus" ↔ False) ∧ (("pair" : Str) = "times" ↔ False) ∧ (("pair" : Str) = "below" ↔ False) ∧ (("pair" : Str) = "put" ↔ False) ∧ (("pair" : Str) = "join" ↔ False) ∧ (("pair" : Str) = "call" ↔ False) ∧ (("pair" : Str) = "row" ↔ False) ∧ (("pair" : Str) = "fun" ↔ False) ∧ (("pair" : Str) = "truth" ↔ False) := by decide +kernel
theorem ne_put : (("put" : Str) = "num" ↔ False) ∧ (("put" : Str) = "name" ↔ False) ∧ (("put" : Str) = "yes" ↔ False) ∧ (("put" : Str) = "no" ↔ False) ∧ (("put" : Str) = "none" ↔ False) ∧ (("put" : Str) = "choose" ↔ False) ∧ (("put" : Str) = "let" ↔ False) ∧ (("put" : Str) = "split" ↔ False) ∧ (("put" : Str) = "give" ↔ False) ∧ (("put" : Str) = "total" ↔ False) ∧ (("put" : Str) = "size" ↔ False) ∧ (("put" : Str) = "plus" ↔ False) ∧ (("put" : Str) = "times" ↔ False) ∧ (("put" : Str) = "below" ↔ False) ∧ (("put" : Str) = "pair" ↔ False) ∧ (("put" : Str) = "join" ↔ False) ∧ (("put" : Str) = "call" ↔ False) ∧ (("put" : Str) = "row" ↔ False) ∧ (("put" : Str) = "fun" ↔ False) ∧ (("put" : Str) = "truth" ↔ False) := by decide +kernel
theorem ne_join : (("join" : Str) = "num" ↔ False) ∧ (("join" : Str) = "name" ↔ False) ∧ (("join" : Str) = "yes" ↔ False) ∧ (("join" : Str) = "no" ↔ False) ∧ (("join" : Str) = "none" ↔ False) ∧ (("join" : Str) = "choose" ↔ False) ∧ (("join" : Str) = "let" ↔ False) ∧ (("join" : Str) = "split" ↔ False) ∧ (("join" : Str) = "give" ↔ False) ∧ (("join" : Str) = "total" ↔ False) ∧ (("join" : Str) = "size" ↔ False) ∧ (("join" : Str) = "plus" ↔ False) ∧ (("join" : Str) = "times" ↔ False) ∧ (("join" : Str) = "below" ↔ False) ∧ (("join" : Str) = "pair" ↔ False) ∧ (("join" : Str) = "put" ↔ False) ∧ (("join" : Str) = "call" ↔ False) ∧ (("join" : Str) = "row" ↔ False) ∧ (("join" : Str) = "fun" ↔ False) ∧ (("join" : Str) = "truth" ↔ False) := by decide +kernel
theorem ne_call : (("call" : Str) = "num" ↔ False) ∧ (("call" : Str) = "name" ↔ False) ∧ (("call" : Str) = "yes" ↔ False) ∧ (("call" : Str) = "no" ↔ False) ∧ (("call" : Str) = "none" ↔ False) ∧ (("call" : Str) = "choose" ↔ False) ∧ (("call" : Str) = "let" ↔ False) ∧ (("call" : Str) = "split" ↔ False) ∧ (("call" : Str) = "give" ↔ False) ∧ (("call" : Str) = "total" ↔ False) ∧ (("call" : Str) = "size" ↔ False) ∧ (("call" : Str) = "plus" ↔ False) ∧ (("call" : Str) = "times" ↔ False) ∧ (("call" : Str) = "below" ↔ False) ∧ (("call" : Str) = "pair" ↔ False) ∧ (("call" : Str) = "put" ↔ False) ∧ (("call" : Str) = "join" ↔ False) ∧ (("call" : Str) = "row" ↔ False) ∧ (("call" : Str) = "fun" ↔ False) ∧ (("call" : Str) = "truth" ↔ False) := by decide +kernel
theorem ne_row : (("row" : Str) = "num" ↔ False) ∧ (("row" : Str) = "name" ↔ False) ∧ (("row" : Str) = "yes" ↔ False) ∧ (("row" : Str) = "no" ↔ False) ∧ (("row" : Str) = "none" ↔ False) ∧ (("row" : Str) = "choose" ↔ False) ∧ (("row" : Str) = "let" ↔ False) ∧ (("row" : Str) = "split" ↔ False) ∧ (("row" : Str) = "give" ↔ False) ∧ (("row" : Str) = "total" ↔ False) ∧ (("row" : Str) = "size" ↔ False) ∧ (("row" : Str) = "plus" ↔ False) ∧ (("row" : Str) = "times" ↔ False) ∧ (("row" : Str) = "below" ↔ False) ∧ (("row" : Str) = "pair" ↔ False) ∧ (("row" : Str) = "put" ↔ False) ∧ (("row" : Str) = "join" ↔ False) ∧ (("row" : Str) = "call" ↔ False) ∧ (("row" : Str) = "fun" ↔ False) ∧ (("row" : Str) = "truth" ↔ False) := by decide +kernel
theorem ne_fun : (("fun" : Str) = "num" ↔ False) ∧ (("fun" : Str) = "name" ↔ False) ∧ (("fun" : Str) = "yes" ↔ False) ∧ (("fun" : Str) = "no" ↔ False) ∧ (("fun" : Str) = "none" ↔ False) ∧ (("fun" : Str) = "choose" ↔ False) ∧ (("fun" : Str) = "let" ↔ False) ∧ (("fun" : Str) = "split" ↔ False) ∧ (("fun" : Str) = "give" ↔ False) ∧ (("fun" : Str) = "total" ↔ False) ∧ (("fun" : Str) = "size" ↔ False) ∧ (("fun" : Str) = "plus" ↔ False) ∧ (("fun" : Str) = "times" ↔ False) ∧ (("fun" : Str) = "below" ↔ False) ∧ (("fun" : Str) = "pair" ↔ False) ∧ (("fun" : Str) = "put" ↔ False) ∧ (("fun" : Str) = "join" ↔ False) ∧ (("fun" : Str) = "call" ↔ False) ∧ (("fun" : Str) = "row" ↔ False) ∧ (("fun" : Str) = "truth" ↔ False) := by decide +kernel
theorem ne_truth : (("truth" : Str) = "num" ↔ False) ∧ (("truth" : Str) = "name" ↔ False) ∧ (("truth" : Str) = "yes" ↔ False) ∧ (("truth" : Str) = "no" ↔ False) ∧ (("truth" : Str) = "none" ↔ False) ∧ (("truth" : Str) = "choose" ↔ False) ∧ (("truth" : Str) = "let" ↔ False) ∧ (("truth" : Str) = "split" ↔ False) ∧ (("truth" : Str) = "give" ↔ False) ∧ (("truth" : Str) = "total" ↔ False) ∧ (("truth" : Str) = "size" ↔ False) ∧ (("truth" : Str) = "plus" ↔ False) ∧ (("truth" : Str) = "times" ↔ False) ∧ (("truth" : Str) = "below" ↔ False) ∧ (("truth" : Str) = "pair" ↔ False) ∧ (("truth" : Str) = "put" ↔ False) ∧ (("truth" : Str) = "join" ↔ False) ∧ (("truth" : Str) = "call" ↔ False) ∧ (("truth" : Str) = "row" ↔ False) ∧ (("truth" : Str) = "fun" ↔ False) := by decide +kernel
end K50

set_option Elab.async false
set_option linter.all false
set_option maxRecDepth 100000
set_option maxHeartbeats 4000000
namespace K50
open PySem PySem.Spec PyProof.Rows L2 Pz
local macro_rules | `(tactic| walk_at "w") => `(tactic| (try (simp only [wOp, wVar, wC, wB, wAsg, wRet, wDrop, gwName, gwSub, wIfS, wIf, wAndV, wOrV, wNotV, wNot, wAnd, wOr, wCB, wCons, wNil, wTup, wLst, wLstC, wCall, wPar, wAug, wAugS, wNext, wUn, wChain, wSl, wPart, wNoPart, wBM, wBM0, wIsi, wIsi2, fI0, fI, fLt, fLe, fGt, fGe, startD, List.map_cons, List.map_nil, List.length_cons, List.length_nil, List.replicate, List.cons_append, List.nil_append, Nat.reduceAdd, Nat.reduceSub, List.getElem?_cons_zero, List.getElem?_cons_succ, List.set_cons_zero, List.set_cons_succ, gwTup, gwCons, gwNil, true_and, wFor, wLc, wiL, wiR1, wiR2, wiS, wiT, wipeD, wFmt, wJoined, wJs, wTab, gwUnl])))
local macro_rules | `(tactic| walk_at "s") => `(tactic| (try (simp only [wOp, wVar, wC, wB, wAsg, wRet, wDrop, gwName, gwSub, wIfS, wIf, wAndV, wOrV, wNotV, wNot, wAnd, wOr, wCB, wCons, wNil, wTup, wLst, wLstC, wCall, wPar, wAug, wAugS, wNext, wUn, wChain, wSl, wPart, wNoPart, wBM, wBM0, wIsi, wIsi2, fI0, fI, fLt, fLe, fGt, fGe, startD, List.map_cons, List.map_nil, List.length_cons, List.length_nil, List.replicate, List.cons_append, List.nil_append, Nat.reduceAdd, Nat.reduceSub, List.getElem?_cons_zero, List.getElem?_cons_succ, List.set_cons_zero, List.set_cons_succ, gwTup, gwCons, gwNil, true_and, wFor, wLc, wiL, wiR1, wiR2, wiS, wiT, wipeD, wFmt, wJoined, wJs, wTab, gwUnl, fLenT, fLenLs, fEqS, fEqI, fNeS, fNeI, fIxLs, fIxTs, fSlT_1, atD_0, atD_1, atD_2, atD_3, atD_4, Int.cast_ofNat_Int, List.mem_cons, List.not_mem_nil, or_false, false_or, or_true, true_or, decide_true, decide_false, Bool.not_true, Bool.not_false, eq_self, seqOf, strsOf, Option.map_some, fInQ, ne_num, ne_name, ne_yes, ne_no, ne_none, ne_choose, ne_let, ne_split, ne_give, ne_total, ne_size, ne_plus, ne_times, ne_below, ne_pair, ne_put, ne_join, ne_call, ne_row, ne_fun, ne_truth])))
section
variable {P : Program} {w : World} {K : PySem.W.Frag} {mg : Str → Option Value} {base : Heap} {f : Addr} {fd : FuncData}
theorem join2 (s a b : Str) : Txt.join s [a, b] = a ++ s ++ b := str_ext (by rw [codes_joinS, codes_app, codes_app]; simp)
def pST (n : Nat) : PSpec := fun ds S Q => ∃ s : So, ds = [s.toD] ∧ s.dp ≤ n ∧ s.dp ≤ 12 ∧ Q (.str s.txt) S
theorem no_st {n : Nat} (hn : n = 0) {vs : List V} {H : Hp} {Q : VK} {E : XK} (h : spP K (pST n) vs H Q E) : False := by
  subst hn
  obtain ⟨F, S, ds, Qp, ok, rs, ⟨s, _, hp, _⟩, post⟩ := h
  have := s.dp_pos
  omega
theorem scSt : FnScope ["sort", "parts", "part", "sign"] ["sort"] (defScope (top 2)) := ⟨rfl, rfl, rfl, by decide +kernel, rfl, by decide +kernel, by decide +kernel⟩
theorem ok_st (Fn : FnP K "sort_text" (top 2) f fd) (T : Txt mg) (hm : mg "sort_text" = some (.ref f)) (hb : Binds K fd ["sort"] []) (n : Nat) : FnOk P w K mg base CX0 n f fd ["sort"] (spP K (pST n)) := by
  induction n with
  | zero => exact ⟨fun vs H Q E h => (no_st rfl h).elim, fun A outer s H args us vs Q E _ _ _ _ h => (no_st rfl h).elim⟩
  | succ n ih =>
    have Cst : Callee P w K mg base n "sort_text" ["sort"] (pST n) := ⟨_, _, ih, hm, Fn.kp, hb⟩
    have sc := scSt
    refine fn_pureD Fn scSt (fun ds S Q h => by obtain ⟨s, rfl, _⟩ := h; rfl) fun cdv A outer s H E hr => ⟨_, (dss_cons (ds_if (dt_eq (de_lenL T.len (de_v 0)) de_int)
      (dss_one (ds_ret (de_ixT (de_v 0) de_int)))
      dss_nil)
      (dss_cons (ds_setLc (i := 1) (own := [("part", 2)]) rfl sc.nd (di_tup (de_slT (de_v 0) (do_some de_int) do_none)) (blkOk_by (N := ["sort", "parts", "part", "sign"]) (sc := defScope (top 2)) (by decide +kernel)) (fun _ _ _ _ _ => (dg_name (i := 2) sc.nd)) (fun _ _ _ _ _ => dts_nil) (fun _ _ _ _ _ => (de_f Cst (hr.mono (by first | exact Nat.le_refl _ | decide | omega)) (da_cons (de_v 2) da_nil))) (sw_true rfl rfl rfl (by decide +kernel)))
      (dss_cons (ds_if (dt_eq (de_ixT (de_v 0) de_int) de_str)
      (dss_one (ds_ret (de_joined (.cons de_str (.cons (de_fmt (de_ixL (de_v 1) de_int)) (.cons de_str .nil))))))
      dss_nil)
      (dss_cons (ds_set (i := 3) sc.nd (de_if (dt_eq (de_ixT (de_v 0) de_int) de_str) de_str de_str))
      (dss_one (ds_ret (de_joined (.cons de_str (.cons (de_fmt (de_join (de_v 3) (da_cons (de_v 1) da_nil))) (.cons de_str .nil)))))))))), ?_⟩
    rintro ds S Q ⟨s, rfl, hn, h12, q⟩
    have h100 := sizeLine_big
    have hl := s.len12 h12
    cases s with
    | num =>
      refine s_seq ?_
      walk_at "w"
      simp only [So.toD]
      walk_at "s"
      exact Fin.here q
    | truth =>
      refine s_seq ?_
      walk_at "w"
      simp only [So.toD]
      walk_at "s"
      exact Fin.here q
    | row a =>
      refine s_seq ?_
      walk_at "w"
      simp only [So.toD]
      walk_at "s"
      refine s_seq ?_
      walk_at "s"
      refine lc_map (ys := [a]) (mk := So.toD) (fun s => D.str s.txt) (by show 1 ≤ _; omega) (fun s hs R r => ?_) ?_
      · walk_at "s"
        rw [List.mem_singleton.mp hs] at r ⊢
        simp only [So.dp] at hn h12
        exact ⟨a, rfl, by omega, by omega, r⟩
      refine s_seq ?_
      walk_at "s"
      simp only [empty_app, len_app]
      simp only [So.txt, len_app] at hl
      exact ⟨by omega, by omega, by omega, by omega, Fin.here q⟩
    | pair a b =>
      refine s_seq ?_
      walk_at "w"
      simp only [So.toD]
      walk_at "s"
      refine s_seq ?_
      walk_at "s"
      refine lc_map (ys := [a, b]) (mk := So.toD) (fun s => D.str s.txt) (by show 2 ≤ _; omega) (fun s hs R r => ?_) ?_
      · walk_at "s"
        simp only [So.dp] at hn h12
        simp only [List.mem_cons, List.not_mem_nil, or_false] at hs
        exact ⟨s, rfl, by rcases hs with rfl | rfl <;> omega, by rcases hs with rfl | rfl <;> omega, r⟩
      refine s_seq ?_
      walk_at "s"
      refine s_seq ?_
      walk_at "s"
      simp only [fJoin]
      walk_at "s"
      have ej := join2 ", " a.txt b.txt
      simp only [So.txt, len_app] at hl
      simp only [ej, empty_app, len_app, List.sum_cons, List.sum_nil]
      have l2 : (", " : Str).length = 2 := by decide +kernel
      refine ⟨by omega, rfl, by omega, by omega, by omega, by omega, Fin.here ?_⟩
      rw [← app_assoc, ← app_assoc]
      exact q
    | fn a b =>
      refine s_seq ?_
      walk_at "w"
      simp only [So.toD]
      walk_at "s"
      refine s_seq ?_
      walk_at "s"
      refine lc_map (ys := [a, b]) (mk := So.toD) (fun s => D.str s.txt) (by show 2 ≤ _; omega) (fun s hs R r => ?_) ?_
      · walk_at "s"
        simp only [So.dp] at hn h12
        simp only [List.mem_cons, List.not_mem_nil, or_false] at hs
        exact ⟨s, rfl, by rcases hs with rfl | rfl <;> omega, by rcases hs with rfl | rfl <;> omega, r⟩
      refine s_seq ?_
      walk_at "s"
      refine s_seq ?_
      walk_at "s"
      simp only [fJoin]
      walk_at "s"
      have ej := join2 " > " a.txt b.txt
      simp only [So.txt, len_app] at hl
      simp only [ej, empty_app, len_app, List.sum_cons, List.sum_nil]
      have l2 : (" > " : Str).length = 3 := by decide +kernel
      refine ⟨by omega, rfl, by omega, by omega, by omega, by omega, Fin.here ?_⟩
      rw [← app_assoc, ← app_assoc]
      exact q
theorem scLs : FnScope ["_law_sort", "_law_parts", "_law_part"] ["_law_sort"] (defScope (top 18)) := ⟨rfl, rfl, rfl, by decide +kernel, rfl, by decide +kernel, by decide +kernel⟩
theorem ok_ls (Fn : FnP K "_law_sort_text" (top 18) f fd) (T : Txt mg) (hm : mg "_law_sort_text" = some (.ref f)) (hb : Binds K fd ["_law_sort"] []) (n : Nat) : FnOk P w K mg base CX0 n f fd ["_law_sort"] (spP K (pST n)) := by
  induction n with
  | zero => exact ⟨fun vs H Q E h => (no_st rfl h).elim, fun A outer s H args us vs Q E _ _ _ _ h => (no_st rfl h).elim⟩
  | succ n ih =>
    have Cls : Callee P w K mg base n "_law_sort_text" ["_law_sort"] (pST n) := ⟨_, _, ih, hm, Fn.kp, hb⟩
    have sc := scLs
    refine fn_pureD Fn scLs (fun ds S Q h => by obtain ⟨s, rfl, _⟩ := h; rfl) fun cdv A outer s H E hr => ⟨_, (dss_cons (ds_if (dt_inL (de_ixT (de_v 0) de_int) (de_lst (da_cons de_str (da_cons de_str da_nil))))
      (dss_one (ds_ret (de_ixT (de_v 0) de_int)))
      dss_nil)
      (dss_cons (ds_setLc (i := 1) (own := [("_law_part", 2)]) rfl sc.nd (di_tup (de_slT (de_v 0) (do_some de_int) do_none)) (blkOk_by (N := ["_law_sort", "_law_parts", "_law_part"]) (sc := defScope (top 18)) (by decide +kernel)) (fun _ _ _ _ _ => (dg_name (i := 2) sc.nd)) (fun _ _ _ _ _ => dts_nil) (fun _ _ _ _ _ => (de_f Cls (hr.mono (by first | exact Nat.le_refl _ | decide | omega)) (da_cons (de_v 2) da_nil))) (sw_true rfl rfl rfl (by decide +kernel)))
      (dss_cons (ds_if (dt_eq (de_ixT (de_v 0) de_int) de_str)
      (dss_one (ds_ret (de_addS (de_addS de_str (de_ixL (de_v 1) de_int)) de_str)))
      dss_nil)
      (dss_one (ds_ret (de_addS (de_addS (de_addS (de_addS de_str (de_ixL (de_v 1) de_int)) (de_ixL (de_lst (da_cons de_str (da_cons de_str da_nil))) (de_int1 T.int (de_eq (de_ixT (de_v 0) de_int) de_str)))) (de_ixL (de_v 1) de_int)) de_str)))))), ?_⟩
    rintro ds S Q ⟨s, rfl, hn, h12, q⟩
    have h100 := sizeLine_big
    have hl := s.len12 h12
    cases s with
    | num =>
      refine s_seq ?_
      walk_at "w"
      simp only [So.toD]
      walk_at "s"
      exact ⟨by decide, Fin.here q⟩
    | truth =>
      refine s_seq ?_
      walk_at "w"
      simp only [So.toD]
      walk_at "s"
      exact ⟨by decide, Fin.here q⟩
    | row a =>
      refine s_seq ?_
      walk_at "w"
      simp only [So.toD]
      walk_at "s"
      refine ⟨by decide, s_seq ?_⟩
      walk_at "s"
      refine lc_map (ys := [a]) (mk := So.toD) (fun s => D.str s.txt) (by show 1 ≤ _; omega) (fun s hs R r => ?_) ?_
      · walk_at "s"
        rw [List.mem_singleton.mp hs] at r ⊢
        simp only [So.dp] at hn h12
        exact ⟨a, rfl, by omega, by omega, r⟩
      refine s_seq ?_
      walk_at "s"
      simp only [So.txt, len_app] at hl
      exact fAddS_to (by omega) (fAddS_to (by rw [len_app]; omega) (Fin.here q))
    | pair a b =>
      refine s_seq ?_
      walk_at "w"
      simp only [So.toD]
      walk_at "s"
      refine ⟨by decide, s_seq ?_⟩
      walk_at "s"
      refine lc_map (ys := [a, b]) (mk := So.toD) (fun s => D.str s.txt) (by show 2 ≤ _; omega) (fun s hs R r => ?_) ?_
      · walk_at "s"
        simp only [So.dp] at hn h12
        simp only [List.mem_cons, List.not_mem_nil, or_false] at hs
        exact ⟨s, rfl, by rcases hs with rfl | rfl <;> omega, by rcases hs with rfl | rfl <;> omega, r⟩
      refine s_seq ?_
      walk_at "s"
      simp only [So.txt, len_app] at hl
      refine fAddS_to (by omega) ?_
      refine ⟨by decide, ?_⟩
      simp only [fInt]
      walk_at "s"
      simp only [Bool.false_eq_true, if_false, atD_0]
      exact fAddS_to (by rw [len_app]; omega) (fAddS_to (by rw [len_app, len_app]; omega) (fAddS_to (by rw [len_app, len_app, len_app]; omega) (Fin.here q)))
    | fn a b =>
      refine s_seq ?_
      walk_at "w"
      simp only [So.toD]
      walk_at "s"
      refine ⟨by decide, s_seq ?_⟩
      walk_at "s"
      refine lc_map (ys := [a, b]) (mk := So.toD) (fun s => D.str s.txt) (by show 2 ≤ _; omega) (fun s hs R r => ?_) ?_
      · walk_at "s"
        simp only [So.dp] at hn h12
        simp only [List.mem_cons, List.not_mem_nil, or_false] at hs
        exact ⟨s, rfl, by rcases hs with rfl | rfl <;> omega, by rcases hs with rfl | rfl <;> omega, r⟩
      refine s_seq ?_
      walk_at "s"
      simp only [So.txt, len_app] at hl
      refine fAddS_to (by omega) ?_
      refine ⟨by decide, ?_⟩
      simp only [fInt]
      walk_at "s"
      simp only [if_true, atD_1]
      exact fAddS_to (by rw [len_app]; omega) (fAddS_to (by rw [len_app, len_app]; omega) (fAddS_to (by rw [len_app, len_app, len_app]; omega) (Fin.here q)))
end
end K50

set_option Elab.async false
set_option linter.all false
set_option maxRecDepth 100000
set_option maxHeartbeats 4000000
namespace K50
open PySem PySem.Spec PyProof.Rows L2 Pz
local macro_rules | `(tactic| walk_at "w") => `(tactic| (try (simp only [wOp, wVar, wC, wB, wAsg, wRet, wDrop, gwName, gwSub, wIfS, wIf, wAndV, wOrV, wNotV, wNot, wAnd, wOr, wCB, wCons, wNil, wTup, wLst, wLstC, wCall, wPar, wAug, wAugS, wNext, wUn, wChain, wSl, wPart, wNoPart, wBM, wBM0, wIsi, wIsi2, fI0, fI, fLt, fLe, fGt, fGe, startD, List.map_cons, List.map_nil, List.length_cons, List.length_nil, List.replicate, List.cons_append, List.nil_append, Nat.reduceAdd, Nat.reduceSub, List.getElem?_cons_zero, List.getElem?_cons_succ, List.set_cons_zero, List.set_cons_succ, gwTup, gwCons, gwNil, true_and, wFor, wLc, wiL, wiR1, wiR2, wiS, wiT, wipeD, wFmt, wJoined, wJs, wTab, gwUnl])))
local macro_rules | `(tactic| walk_at "s") => `(tactic| (try (simp only [wOp, wVar, wC, wB, wAsg, wRet, wDrop, gwName, gwSub, wIfS, wIf, wAndV, wOrV, wNotV, wNot, wAnd, wOr, wCB, wCons, wNil, wTup, wLst, wLstC, wCall, wPar, wAug, wAugS, wNext, wUn, wChain, wSl, wPart, wNoPart, wBM, wBM0, wIsi, wIsi2, fI0, fI, fLt, fLe, fGt, fGe, startD, List.map_cons, List.map_nil, List.length_cons, List.length_nil, List.replicate, List.cons_append, List.nil_append, Nat.reduceAdd, Nat.reduceSub, List.getElem?_cons_zero, List.getElem?_cons_succ, List.set_cons_zero, List.set_cons_succ, gwTup, gwCons, gwNil, true_and, wFor, wLc, wiL, wiR1, wiR2, wiS, wiT, wipeD, wFmt, wJoined, wJs, wTab, gwUnl, fLenT, fLenLs, fEqS, fEqI, fNeS, fNeI, fIxLs, fIxTs, fSlT_1, atD_0, atD_1, atD_2, atD_3, atD_4, Int.cast_ofNat_Int, List.mem_cons, List.not_mem_nil, or_false, false_or, or_true, true_or, decide_true, decide_false, Bool.not_true, Bool.not_false, eq_self, seqOf, strsOf, Option.map_some, fInQ, Bool.false_eq_true, if_false, if_true, ne_num, ne_name, ne_yes, ne_no, ne_none, ne_choose, ne_let, ne_split, ne_give, ne_total, ne_size, ne_plus, ne_times, ne_below, ne_pair, ne_put, ne_join, ne_call, ne_row, ne_fun, ne_truth])))
local macro_rules | `(tactic| walk_at "g") => `(tactic| (repeat (first | (with_reducible refine s_seq ?_) | (with_reducible refine And.intro (by decide) ?_) | (simp only [wOp, wVar, wC, wB, wAsg, wRet, wDrop, gwName, gwSub, wIfS, wIf, wAndV, wOrV, wNotV, wNot, wAnd, wOr, wCB, wCons, wNil, wTup, wLst, wLstC, wCall, wPar, wAug, wAugS, wNext, wUn, wChain, wSl, wPart, wNoPart, wBM, wBM0, wIsi, wIsi2, fI0, fI, fLt, fLe, fGt, fGe, startD, List.map_cons, List.map_nil, List.length_cons, List.length_nil, List.replicate, List.cons_append, List.nil_append, Nat.reduceAdd, Nat.reduceSub, List.getElem?_cons_zero, List.getElem?_cons_succ, List.set_cons_zero, List.set_cons_succ, gwTup, gwCons, gwNil, true_and, wFor, wLc, wiL, wiR1, wiR2, wiS, wiT, wipeD, wFmt, wJoined, wJs, wTab, gwUnl, fLenT, fLenLs, fEqS, fEqI, fNeS, fNeI, fIxLs, fIxTs, fSlT_1, atD_0, atD_1, atD_2, atD_3, atD_4, Int.cast_ofNat_Int, List.mem_cons, List.not_mem_nil, or_false, false_or, or_true, true_or, decide_true, decide_false, Bool.not_true, Bool.not_false, eq_self, seqOf, strsOf, Option.map_some, fInQ, Bool.false_eq_true, if_false, if_true, ne_num, ne_name, ne_yes, ne_no, ne_none, ne_choose, ne_let, ne_split, ne_give, ne_total, ne_size, ne_plus, ne_times, ne_below, ne_pair, ne_put, ne_join, ne_call, ne_row, ne_fun, ne_truth]))))
local macro_rules | `(tactic| walk_at "o") => `(tactic| (repeat (refine And.intro (by omega) ?_)))
local macro_rules | `(tactic| walk_at "a") => `(tactic| (repeat (refine fAddS_to (by first | omega | (simp only [len_app]; omega)) ?_)))
section
variable {P : Program} {w : World} {K : PySem.W.Frag} {mg : Str → Option Value} {base : Heap} {f : Addr} {fd : FuncData}
def signs : List (Str × Str) := [("plus", " + "), ("times", " * "), ("below", " < "), ("pair", ", "), ("put", " : "), ("join", " ++ "), ("call", " ")]
def pWT (n : Nat) : PSpec := fun ds S Q => ∃ w : Wd, ds = [w.toD] ∧ w.dp ≤ n ∧ w.good ∧ w.sz ≤ 20000 ∧ Q (.str w.txt) S
theorem Wd.dp_pos (w : Wd) : 1 ≤ w.dp := by cases w <;> simp [Wd.dp]
theorem no_wt {n : Nat} (hn : n = 0) {vs : List V} {H : Hp} {Q : VK} {E : XK} (h : spP K (pWT n) vs H Q E) : False := by
  subst hn
  obtain ⟨F, S, ds, Qp, ok, rs, ⟨s, _, hp, _⟩, post⟩ := h
  have := s.dp_pos
  omega
theorem num_log {m : Nat} (h : m ≤ 9) : (m : Int).natAbs.log2 < 1920 := by
  have : ∀ m : Nat, m ≤ 9 → (m : Int).natAbs.log2 < 1920 := by decide +kernel
  exact this m h
theorem sizeLine_is : sizeLine = 16777216 := by decide
theorem len_ok {w : Wd} (hg : w.good) (hz : w.sz ≤ 20000) : w.txt.length ≤ 14000000 := by have := w.len hg; omega
theorem fTab_to (o : Bi) {S : Store} {Q : PQ} (q : Q (.str o.sg) S) : fTab signs (.str o.nm) S Q := by
  have e : signs.lookup o.nm = some o.sg := by cases o <;> decide +kernel
  simp only [fTab, e]
  exact q
theorem getS_to (o : Bi) {env : En} {S : Store} {Q : PQ} (h : env[1]? = some (some (.str o.nm))) (q : Q (.str o.sg) S) : wGetS [("plus", " + "), ("times", " * "), ("below", " < "), ("pair", ", "), ("put", " : "), ("join", " ++ ")] (wVar 1) (wC (.str " ")) env S Q := by
  simp only [wGetS, wVar, h, wC]
  cases o <;> exact q
theorem sg_len (o : Bi) : o.sg.length ≤ 4 := by cases o <;> decide +kernel
theorem scWt : FnScope ["word", "first", "truth", "one", "other", "part"] ["word"] (defScope (top 3)) := ⟨rfl, rfl, rfl, by decide +kernel, rfl, by decide +kernel, by decide +kernel⟩
theorem ok_wt {d : Addr} {es : Array DictEntry} {nn : Nat} (Fn : FnP K "word_text" (top 3) f fd) (T : Txt mg) (hm : mg "word_text" = some (.ref f)) (hb : Binds K fd ["word"] []) (hT : KDict K w d es nn) (hsm : mg "SIGNS" = some (.ref d)) (hsv : ∀ z y, signs.lookup z = some y → ∃ u, PySem.W.nsIn K d z = some (some u) ∧ RelV (.str y) u)
    (hst : ∀ n, Callee P w K mg base n "sort_text" ["sort"] (pST n)) (n : Nat) : FnOk P w K mg base CX0 n f fd ["word"] (spP K (pWT n)) := by
  induction n with
  | zero => exact ⟨fun vs H Q E h => (no_wt rfl h).elim, fun A outer s H args us vs Q E _ _ _ _ h => (no_wt rfl h).elim⟩
  | succ n ih =>
    have Cwt : Callee P w K mg base n "word_text" ["word"] (pWT n) := ⟨_, _, ih, hm, Fn.kp, hb⟩
    have Cst := hst n
    have sc := scWt
    refine fn_pureD Fn scWt (fun ds S Q h => by obtain ⟨s, rfl, _⟩ := h; rfl) fun cdv A outer s H E hr => ⟨_, (dss_cons (ds_set (i := 1) sc.nd (de_ixT (de_v 0) de_int))
      (dss_cons (ds_if (dt_inL (de_v 1) (de_tup (da_cons de_str (da_cons de_str da_nil))))
      (dss_one (ds_ret (de_str1 T.str (de_ixT (de_v 0) de_int))))
      dss_nil)
      (dss_cons (ds_if (dt_inL (de_v 1) (de_tup (da_cons de_str (da_cons de_str da_nil))))
      (dss_one (ds_ret (de_v 1)))
      dss_nil)
      (dss_cons (ds_if (dt_eq (de_v 1) de_str)
      (dss_one (ds_ret (de_joined (.cons de_str (.cons (de_fmt (de_f Cst (hr.mono (by first | exact Nat.le_refl _ | decide | omega)) (da_cons (de_ixT (de_v 0) de_int) da_nil))) .nil)))))
      dss_nil)
      (dss_cons (ds_if (dt_eq (de_v 1) de_str)
      (dss_cons (ds_asg (de_lc (own := [("part", 5)]) rfl sc.nd (di_tup (de_slT (de_v 0) (do_some de_int) do_none)) (blkOk_by (N := ["word", "first", "truth", "one", "other", "part"]) (sc := defScope (top 3)) (by decide +kernel)) (fun _ _ _ _ _ => (dg_name (i := 5) sc.nd)) (fun _ _ _ _ _ => dts_nil) (fun _ _ _ _ _ => (de_f Cwt (hr.mono (by first | exact Nat.le_refl _ | decide | omega)) (da_cons (de_v 5) da_nil)))) (dg_unl (n := 3) rfl (dgs_cons (dg_name (i := 2) sc.nd) (dgs_cons (dg_name (i := 3) sc.nd) (dgs_cons (dg_name (i := 4) sc.nd) dgs_nil)))))
      (dss_one (ds_ret (de_joined (.cons de_str (.cons (de_fmt (de_v 2)) (.cons de_str (.cons (de_fmt (de_v 3)) (.cons de_str (.cons (de_fmt (de_v 4)) .nil))))))))))
      dss_nil)
      (dss_cons (ds_if (dt_eq (de_v 1) de_str)
      (dss_one (ds_ret (de_joined (.cons de_str (.cons (de_fmt (de_ixT (de_v 0) de_int)) (.cons de_str (.cons (de_fmt (de_f Cwt (hr.mono (by first | exact Nat.le_refl _ | decide | omega)) (da_cons (de_ixT (de_v 0) de_int) da_nil))) (.cons de_str (.cons (de_fmt (de_f Cwt (hr.mono (by first | exact Nat.le_refl _ | decide | omega)) (da_cons (de_ixT (de_v 0) de_int) da_nil))) .nil)))))))))
      dss_nil)
      (dss_cons (ds_if (dt_eq (de_v 1) de_str)
      (dss_one (ds_ret (de_joined (.cons de_str (.cons (de_fmt (de_ixT (de_v 0) de_int)) (.cons de_str (.cons (de_fmt (de_ixT (de_v 0) de_int)) (.cons de_str (.cons (de_fmt (de_f Cwt (hr.mono (by first | exact Nat.le_refl _ | decide | omega)) (da_cons (de_ixT (de_v 0) de_int) da_nil))) (.cons de_str (.cons (de_fmt (de_f Cwt (hr.mono (by first | exact Nat.le_refl _ | decide | omega)) (da_cons (de_ixT (de_v 0) de_int) da_nil))) .nil)))))))))))
      dss_nil)
      (dss_cons (ds_if (dt_eq (de_v 1) de_str)
      (dss_one (ds_ret (de_joined (.cons de_str (.cons (de_fmt (de_ixT (de_v 0) de_int)) (.cons de_str (.cons (de_fmt (de_f Cst (hr.mono (by first | exact Nat.le_refl _ | decide | omega)) (da_cons (de_ixT (de_v 0) de_int) da_nil))) (.cons de_str (.cons (de_fmt (de_f Cwt (hr.mono (by first | exact Nat.le_refl _ | decide | omega)) (da_cons (de_ixT (de_v 0) de_int) da_nil))) .nil)))))))))
      dss_nil)
      (dss_cons (ds_if (dt_inL (de_v 1) (de_tup (da_cons de_str (da_cons de_str da_nil))))
      (dss_one (ds_ret (de_joined (.cons (de_fmt (de_v 1)) (.cons de_str (.cons (de_fmt (de_f Cwt (hr.mono (by first | exact Nat.le_refl _ | decide | omega)) (da_cons (de_ixT (de_v 0) de_int) da_nil))) .nil))))))
      dss_nil)
      (dss_one (ds_ret (de_joined (.cons de_str (.cons (de_fmt (de_join (de_tab hT hsm hsv (de_v 1)) (da_cons (de_lc (own := [("part", 5)]) rfl sc.nd (di_tup (de_slT (de_v 0) (do_some de_int) do_none)) (blkOk_by (N := ["word", "first", "truth", "one", "other", "part"]) (sc := defScope (top 3)) (by decide +kernel)) (fun _ _ _ _ _ => (dg_name (i := 5) sc.nd)) (fun _ _ _ _ _ => dts_nil) (fun _ _ _ _ _ => (de_f Cwt (hr.mono (by first | exact Nat.le_refl _ | decide | omega)) (da_cons (de_v 5) da_nil)))) da_nil))) (.cons de_str .nil))))))))))))))), ?_⟩
    rintro ds S Q ⟨w, rfl, hn, hg, hz, q⟩
    have h16 := sizeLine_is
    have hl := len_ok hg hz
    have hkd := w.kid_dp
    have hkg := w.kid_good hg
    have hks := w.kid_sz1
    have kid : ∀ k ∈ w.kids, ∀ R : PQ, R (.str k.txt) S → pWT n [k.toD] S R := fun k hk R r => ⟨k, rfl, by have := hkd k hk; omega, hkg k hk, by have := hks k hk; omega, r⟩
    refine s_seq ?_
    walk_at "w"
    cases w with
    | num m =>
      simp only [Wd.toD]
      walk_at "g"
      have hm9 : m ≤ 9 := hg
      exact ⟨num_log hm9, Fin.here q⟩
    | name x =>
      simp only [Wd.toD]
      walk_at "g"
      exact Fin.here q
    | yes =>
      simp only [Wd.toD]
      walk_at "g"
      exact Fin.here q
    | no =>
      simp only [Wd.toD]
      walk_at "g"
      exact Fin.here q
    | none s =>
      simp only [Wd.toD]
      walk_at "g"
      have hs : s.dp ≤ 6 := hg
      simp only [Wd.dp] at hn
      simp only [Wd.txt, len_app] at hl
      simp only [empty_app]
      walk_at "o"
      refine ⟨s, rfl, by omega, by omega, ?_⟩
      walk_at "g"
      rw [len_app]
      walk_at "o"
      exact Fin.here q
    | choose a b c =>
      simp only [Wd.toD]
      walk_at "g"
      simp only [Wd.txt, len_app] at hl
      refine lc_map (ys := [a, b, c]) (mk := Wd.toD) (fun k => D.str k.txt) (by show 3 ≤ _; omega) (fun k hk R r => ?_) ?_
      · walk_at "s"
        exact kid k hk R r
      simp only [lstOf]
      walk_at "g"
      simp only [empty_app, len_app]
      walk_at "o"
      exact Fin.here q
    | lt x a b =>
      simp only [Wd.toD]
      walk_at "g"
      obtain ⟨hx, _, _⟩ := hg
      simp only [Wd.txt, len_app] at hl
      simp only [empty_app, len_app]
      walk_at "o"
      refine kid a (by simp [Wd.kids]) _ ?_
      walk_at "s"
      walk_at "o"
      refine kid b (by simp [Wd.kids]) _ ?_
      walk_at "s"
      walk_at "o"
      exact Fin.here q
    | split x y a b =>
      simp only [Wd.toD]
      walk_at "g"
      obtain ⟨hx, hy, _, _⟩ := hg
      simp only [Wd.txt, len_app] at hl
      simp only [empty_app, len_app]
      walk_at "o"
      refine kid a (by simp [Wd.kids]) _ ?_
      walk_at "s"
      walk_at "o"
      refine kid b (by simp [Wd.kids]) _ ?_
      walk_at "s"
      walk_at "o"
      exact Fin.here q
    | give x s a =>
      simp only [Wd.toD]
      walk_at "g"
      obtain ⟨hx, hs, _⟩ := hg
      simp only [Wd.dp] at hn
      simp only [Wd.txt, len_app] at hl
      simp only [empty_app, len_app]
      walk_at "o"
      refine ⟨s, rfl, by omega, by omega, ?_⟩
      walk_at "s"
      walk_at "o"
      refine kid a (by simp [Wd.kids]) _ ?_
      walk_at "s"
      walk_at "o"
      exact Fin.here q
    | un u a =>
      cases u <;> simp only [Wd.toD, Un.nm]
      all_goals
        walk_at "g"
        simp only [Wd.txt, len_app, Un.nm] at hl
        simp only [empty_app, len_app]
        walk_at "o"
        refine kid a (by simp [Wd.kids]) _ ?_
        walk_at "s"
        walk_at "o"
        exact Fin.here q
    | bin o a b =>
      cases o <;> simp only [Wd.toD, Bi.nm]
      all_goals
        walk_at "g"
        first | refine fTab_to .plus ?_ | refine fTab_to .times ?_ | refine fTab_to .below ?_ | refine fTab_to .pair ?_ | refine fTab_to .put ?_ | refine fTab_to .join ?_ | refine fTab_to .call ?_
        refine And.intro rfl ?_
        have hsg := sg_len
        simp only [Wd.txt, len_app] at hl
        refine lc_map (ys := [a, b]) (mk := Wd.toD) (fun k => D.str k.txt) (by show 2 ≤ _; omega) (fun k hk R r => ?_) ?_
        · walk_at "s"
          exact kid k hk R r
        simp only [fJoin]
        walk_at "s"
        simp only [join2, empty_app, len_app, List.sum_cons, List.sum_nil]
        refine And.intro (by first | (have := hsg .plus; omega) | (have := hsg .times; omega) | (have := hsg .below; omega) | (have := hsg .pair; omega) | (have := hsg .put; omega) | (have := hsg .join; omega) | (have := hsg .call; omega)) ?_
        walk_at "o"
        refine Fin.here ?_
        rw [← app_assoc, ← app_assoc]
        exact q
def pIn : PSpec := fun ds S Q => ∃ w : Wd, ds = [w.toD] ∧ Q (.lst (w.kids.map Wd.toD)) S
theorem scIn : FnScope ["_law_word_here", "_law_first"] ["_law_word_here"] (defScope (top 14)) := ⟨rfl, rfl, rfl, by decide +kernel, rfl, by decide +kernel, by decide +kernel⟩
theorem ok_in (Fn : FnP K "_law_inner" (top 14) f fd) (T : Txt mg) : FnOk P w K mg base CX0 1 f fd ["_law_word_here"] (spP K pIn) := by
  have sc := scIn
  refine fn_pureD Fn scIn (fun ds S Q h => by obtain ⟨s, rfl, _⟩ := h; rfl) fun cdv A outer s H E hr => ⟨_, (dss_cons (ds_set (i := 1) sc.nd (de_ixT (de_v 0) de_int))
      (dss_cons (ds_if (dt_inL (de_v 1) (de_lst (da_cons de_str (da_cons de_str da_nil))))
      (dss_one (ds_ret (de_list T.list (de_slT (de_v 0) (do_some (de_sub (de_lenL T.len (de_v 0)) de_int)) do_none))))
      dss_nil)
      (dss_cons (ds_if (dt_eq (de_v 1) de_str)
      (dss_one (ds_ret (de_lst (da_cons (de_ixT (de_v 0) de_int) da_nil))))
      dss_nil)
      (dss_one (ds_ret (de_if (dt_inL (de_v 1) (de_lst (da_cons de_str (da_cons de_str (da_cons de_str da_nil))))) (de_lst da_nil) (de_list T.list (de_slT (de_v 0) (do_some de_int) do_none)))))))), ?_⟩
  rintro ds S Q ⟨w, rfl, q⟩
  refine s_seq ?_
  walk_at "w"
  cases w with
  | un u a =>
    cases u <;> simp only [Wd.toD, Un.nm]
    all_goals
      walk_at "g"
      simp only [fList]
      walk_at "s"
      exact Fin.here q
  | bin o a b =>
    cases o <;> simp only [Wd.toD, Bi.nm]
    all_goals
      walk_at "g"
      simp only [fList]
      walk_at "s"
      exact Fin.here q
  | lt x a b =>
    simp only [Wd.toD]
    walk_at "g"
    simp only [fSlT, fList]
    refine And.intro (fun z => absurd z.1 (show ¬ HT.sIx 4 0 (some 2) = 0 by decide)) ?_
    exact Fin.here q
  | split x y a b =>
    simp only [Wd.toD]
    walk_at "g"
    simp only [fSlT, fList]
    refine And.intro (fun z => absurd z.1 (show ¬ HT.sIx 5 0 (some 3) = 0 by decide)) ?_
    exact Fin.here q
  | num n =>
    simp only [Wd.toD]
    walk_at "g"
    try simp only [fList]
    walk_at "s"
    exact Fin.here q
  | name n =>
    simp only [Wd.toD]
    walk_at "g"
    try simp only [fList]
    walk_at "s"
    exact Fin.here q
  | none n =>
    simp only [Wd.toD]
    walk_at "g"
    try simp only [fList]
    walk_at "s"
    exact Fin.here q
  | give x s a =>
    simp only [Wd.toD]
    walk_at "g"
    try simp only [fList]
    walk_at "s"
    exact Fin.here q
  | choose a b c =>
    simp only [Wd.toD]
    walk_at "g"
    try simp only [fList]
    walk_at "s"
    exact Fin.here q
  | yes =>
    simp only [Wd.toD]
    walk_at "g"
    try simp only [fList]
    walk_at "s"
    exact Fin.here q
  | no =>
    simp only [Wd.toD]
    walk_at "g"
    try simp only [fList]
    walk_at "s"
    exact Fin.here q
theorem cp_let : ("let" : Str).cps.toList = [108, 101, 116] := by decide +kernel
theorem cp_let_ : ("let " : Str).cps.toList = [108, 101, 116, 32] := by decide +kernel
theorem cp__E_ : (" = " : Str).cps.toList = [32, 61, 32] := by decide +kernel
theorem cp_E : ("=" : Str).cps.toList = [61] := by decide +kernel
theorem cp__in_ : (" in " : Str).cps.toList = [32, 105, 110, 32] := by decide +kernel
theorem cp_in : ("in" : Str).cps.toList = [105, 110] := by decide +kernel
theorem cp__ : (" " : Str).cps.toList = [32] := by decide +kernel
theorem cp_split : ("split" : Str).cps.toList = [115, 112, 108, 105, 116] := by decide +kernel
theorem cp_split_ : ("split " : Str).cps.toList = [115, 112, 108, 105, 116, 32] := by decide +kernel
theorem cp_give : ("give" : Str).cps.toList = [103, 105, 118, 101] := by decide +kernel
theorem cp_give_ : ("give " : Str).cps.toList = [103, 105, 118, 101, 32] := by decide +kernel
theorem cp__to_ : (" to " : Str).cps.toList = [32, 116, 111, 32] := by decide +kernel
theorem cp_to : ("to" : Str).cps.toList = [116, 111] := by decide +kernel
theorem join_let (x a b : Str) : Txt.join " " ["let", x, "=", a, "in", b] = "let " ++ x ++ " = " ++ a ++ " in " ++ b := str_ext (by
  rw [codes_joinS]
  simp [codes_app, cp_let, cp_let_, cp__E_, cp_E, cp__in_, cp_in, cp__, cp_split, cp_split_, cp_give, cp_give_, cp__to_, cp_to])
theorem join_split (x y a b : Str) : Txt.join " " ["split", x, y, "=", a, "in", b] = "split " ++ x ++ " " ++ y ++ " = " ++ a ++ " in " ++ b := str_ext (by
  rw [codes_joinS]
  simp [codes_app, cp_let, cp_let_, cp__E_, cp_E, cp__in_, cp_in, cp__, cp_split, cp_split_, cp_give, cp_give_, cp__to_, cp_to])
theorem join_give (x s a : Str) : Txt.join " " ["give", x, s, "to", a] = "give " ++ x ++ " " ++ s ++ " to " ++ a := str_ext (by
  rw [codes_joinS]
  simp [codes_app, cp_let, cp_let_, cp__E_, cp_E, cp__in_, cp_in, cp__, cp_split, cp_split_, cp_give, cp_give_, cp__to_, cp_to])
theorem ln_let : ("let" : Str).length = 3 := by decide +kernel
theorem ln_split : ("split" : Str).length = 5 := by decide +kernel
theorem ln_give : ("give" : Str).length = 4 := by decide +kernel
theorem ln_E : ("=" : Str).length = 1 := by decide +kernel
theorem ln_in : ("in" : Str).length = 2 := by decide +kernel
theorem ln_to : ("to" : Str).length = 2 := by decide +kernel
theorem ln__ : (" " : Str).length = 1 := by decide +kernel
theorem ln_let_ : ("let " : Str).length = 4 := by decide +kernel
theorem ln__E_ : (" = " : Str).length = 3 := by decide +kernel
theorem ln__in_ : (" in " : Str).length = 4 := by decide +kernel
theorem ln_split_ : ("split " : Str).length = 6 := by decide +kernel
theorem ln_give_ : ("give " : Str).length = 5 := by decide +kernel
theorem ln__to_ : (" to " : Str).length = 4 := by decide +kernel
theorem scLw : FnScope ["_law_word_here", "_law_first", "_law_parts", "_law_part", "_law_sign"] ["_law_word_here"] (defScope (top 19)) := ⟨rfl, rfl, rfl, by decide +kernel, rfl, by decide +kernel, by decide +kernel⟩
theorem ok_lw (Fn : FnP K "_law_word_text" (top 19) f fd) (T : Txt mg) (hm : mg "_law_word_text" = some (.ref f)) (hb : Binds K fd ["_law_word_here"] []) (Cin0 : Callee P w K mg base 1 "_law_inner" ["_law_word_here"] pIn)
    (hls : ∀ n, Callee P w K mg base n "_law_sort_text" ["_law_sort"] (pST n)) (n : Nat) : FnOk P w K mg base CX0 (n + 1) f fd ["_law_word_here"] (spP K (pWT n)) := by
  induction n with
  | zero => exact ⟨fun vs H Q E h => (no_wt rfl h).elim, fun A outer s H args us vs Q E _ _ _ _ h => (no_wt rfl h).elim⟩
  | succ n ih =>
    have Clw : Callee P w K mg base (n + 1) "_law_word_text" ["_law_word_here"] (pWT n) := ⟨_, _, ih, hm, Fn.kp, hb⟩
    have Cls := hls n
    have Cin := Cin0
    have sc := scLw
    refine fn_pureD Fn scLw (fun ds S Q h => by obtain ⟨s, rfl, _⟩ := h; rfl) fun cdv A outer s H E hr => ⟨_, (dss_cons (ds_set (i := 1) sc.nd (de_ixT (de_v 0) de_int))
      (dss_cons (ds_setLc (i := 2) (own := [("_law_part", 3)]) rfl sc.nd (di_list (de_f Cin (hr.mono (by first | exact Nat.le_refl _ | decide | omega)) (da_cons (de_v 0) da_nil))) (blkOk_by (N := ["_law_word_here", "_law_first", "_law_parts", "_law_part", "_law_sign"]) (sc := defScope (top 19)) (by decide +kernel)) (fun _ _ _ _ _ => (dg_name (i := 3) sc.nd)) (fun _ _ _ _ _ => dts_nil) (fun _ _ _ _ _ => (de_f Clw (hr.mono (by first | exact Nat.le_refl _ | decide | omega)) (da_cons (de_v 3) da_nil))) (sw_true rfl rfl rfl (by decide +kernel)))
      (dss_cons (ds_if (dt_inL (de_v 1) (de_lst (da_cons de_str (da_cons de_str da_nil))))
      (dss_one (ds_ret (de_str1 T.str (de_ixT (de_v 0) de_int))))
      dss_nil)
      (dss_cons (ds_if (dt_inL (de_v 1) (de_lst (da_cons de_str (da_cons de_str da_nil))))
      (dss_one (ds_ret (de_v 1)))
      dss_nil)
      (dss_cons (ds_if (dt_eq (de_v 1) de_str)
      (dss_one (ds_ret (de_addS de_str (de_f Cls (hr.mono (by first | exact Nat.le_refl _ | decide | omega)) (da_cons (de_ixT (de_v 0) de_int) da_nil)))))
      dss_nil)
      (dss_cons (ds_if (dt_eq (de_v 1) de_str)
      (dss_one (ds_ret (de_addS (de_addS (de_addS (de_addS (de_addS de_str (de_ixL (de_v 2) de_int)) de_str) (de_ixL (de_v 2) de_int)) de_str) (de_ixL (de_v 2) de_int))))
      dss_nil)
      (dss_cons (ds_if (dt_inL (de_v 1) (de_lst (da_cons de_str (da_cons de_str da_nil))))
      (dss_one (ds_ret (de_join de_str (da_cons (de_addL (de_addL (de_lst (da_cons (de_v 1) da_nil)) (de_list T.list (de_slT (de_v 0) (do_some de_int) (do_some (de_sub (de_lenL T.len (de_v 0)) de_int))))) (de_lst (da_cons de_str (da_cons (de_ixL (de_v 2) de_int) (da_cons de_str (da_cons (de_ixL (de_v 2) de_int) da_nil)))))) da_nil))))
      dss_nil)
      (dss_cons (ds_if (dt_eq (de_v 1) de_str)
      (dss_one (ds_ret (de_join de_str (da_cons (de_lst (da_cons de_str (da_cons (de_ixT (de_v 0) de_int) (da_cons (de_f Cls (hr.mono (by first | exact Nat.le_refl _ | decide | omega)) (da_cons (de_ixT (de_v 0) de_int) da_nil)) (da_cons de_str (da_cons (de_ixL (de_v 2) de_int) da_nil)))))) da_nil))))
      dss_nil)
      (dss_cons (ds_if (dt_inL (de_v 1) (de_lst (da_cons de_str (da_cons de_str da_nil))))
      (dss_one (ds_ret (de_addS (de_addS (de_v 1) de_str) (de_ixL (de_v 2) de_int))))
      dss_nil)
      (dss_cons (ds_set (i := 4) sc.nd (de_getS (hu_of hr) (.cons (.cons (.cons (.cons (.cons (.cons .nil)))))) (de_v 1) de_str))
      (dss_one (ds_ret (de_addS (de_addS (de_addS (de_addS de_str (de_ixL (de_v 2) de_int)) (de_v 4)) (de_ixL (de_v 2) de_int)) de_str))))))))))))), ?_⟩
    rintro ds S Q ⟨w, rfl, hn, hg, hz, q⟩
    have h16 := sizeLine_is
    have hl := len_ok hg hz
    have hkd := w.kid_dp
    have hkg := w.kid_good hg
    have hks := w.kid_sz1
    have kid : ∀ k ∈ w.kids, ∀ R : PQ, R (.str k.txt) S → pWT n [k.toD] S R := fun k hk R r => ⟨k, rfl, by have := hkd k hk; omega, hkg k hk, by have := hks k hk; omega, r⟩
    have kl : w.kids.length ≤ 3 := by cases w <;> simp [Wd.kids]
    refine s_seq ?_
    walk_at "w"
    have e0 : ∃ (x : Str) (r : List D), w.toD = .tup (.str x :: r) := by cases w <;> exact ⟨_, _, rfl⟩
    obtain ⟨x0, r0, e0⟩ := e0
    rw [e0]
    walk_at "s"
    refine s_seq ?_
    walk_at "w"
    rw [← e0]
    refine ⟨w, rfl, ?_⟩
    walk_at "w"
    refine lc_map (fun k => D.str k.txt) (by omega) (fun k hk R r => ?_) ?_
    · walk_at "s"
      exact kid k hk R r
    cases w with
    | un u a =>
      cases u <;> simp only [Wd.toD, Un.nm, Wd.kids] at e0 ⊢ <;> cases e0
      all_goals
        walk_at "g"
        simp only [Wd.txt, len_app, Un.nm] at hl
        walk_at "a"
        exact Fin.here q
    | bin o a b =>
      have hsg := sg_len o
      simp only [Wd.txt, len_app] at hl
      cases o <;> simp only [Wd.toD, Bi.nm, Wd.kids] at e0 ⊢ <;> cases e0
      all_goals
        walk_at "g"
        first | refine getS_to .plus rfl ?_ | refine getS_to .times rfl ?_ | refine getS_to .below rfl ?_ | refine getS_to .pair rfl ?_ | refine getS_to .put rfl ?_ | refine getS_to .join rfl ?_ | refine getS_to .call rfl ?_
        walk_at "a"
        exact Fin.here q
    | num m =>
      simp only [Wd.toD, Wd.kids] at e0 ⊢
      cases e0
      walk_at "g"
      exact ⟨num_log hg, Fin.here q⟩
    | name x =>
      simp only [Wd.toD, Wd.kids] at e0 ⊢
      cases e0
      walk_at "g"
      exact Fin.here q
    | yes =>
      simp only [Wd.toD, Wd.kids] at e0 ⊢
      cases e0
      walk_at "g"
      exact Fin.here q
    | no =>
      simp only [Wd.toD, Wd.kids] at e0 ⊢
      cases e0
      walk_at "g"
      exact Fin.here q
    | none s =>
      simp only [Wd.toD, Wd.kids] at e0 ⊢
      cases e0
      walk_at "g"
      have hs : s.dp ≤ 6 := hg
      simp only [Wd.dp] at hn
      simp only [Wd.txt, len_app] at hl
      refine ⟨s, rfl, by omega, by omega, ?_⟩
      walk_at "a"
      exact Fin.here q
    | choose a b c =>
      simp only [Wd.toD, Wd.kids] at e0 ⊢
      cases e0
      walk_at "g"
      simp only [Wd.txt, len_app] at hl
      walk_at "a"
      exact Fin.here q
    | lt x a b =>
      simp only [Wd.toD, Wd.kids] at e0 ⊢
      cases e0
      walk_at "g"
      simp only [Wd.txt, len_app, ln_let, ln_split, ln_give, ln_E, ln_in, ln_to, ln__, ln_let_, ln__E_, ln__in_, ln_split_, ln_give_, ln__to_] at hl
      refine And.intro rfl (And.intro (by decide) (And.intro (fun z => absurd z.1 (show ¬ HT.sIx 4 0 (some 1) = 0 by decide)) ?_))
      show fList [.tup [.str x]] S _
      simp only [fList]
      walk_at "g"
      simp only [fCat, lstX]
      refine And.intro (by simp; omega) (And.intro (by decide) (And.intro (by simp; omega) ?_))
      simp only [fJoin]
      walk_at "s"
      simp only [List.sum_cons, List.sum_nil, join_let, ln_let, ln_split, ln_give, ln_E, ln_in, ln_to, ln__, ln_let_, ln__E_, ln__in_, ln_split_, ln_give_, ln__to_]
      exact And.intro (by omega) (Fin.here q)
    | split x y a b =>
      simp only [Wd.toD, Wd.kids] at e0 ⊢
      cases e0
      walk_at "g"
      simp only [Wd.txt, len_app, ln_let, ln_split, ln_give, ln_E, ln_in, ln_to, ln__, ln_let_, ln__E_, ln__in_, ln_split_, ln_give_, ln__to_] at hl
      refine And.intro rfl (And.intro (by decide) (And.intro (fun z => absurd z.1 (show ¬ HT.sIx 5 0 (some 1) = 0 by decide)) ?_))
      show fList [.tup [.str x, .str y]] S _
      simp only [fList]
      walk_at "g"
      simp only [fCat, lstX]
      refine And.intro (by simp; omega) (And.intro (by decide) (And.intro (by simp; omega) ?_))
      simp only [fJoin]
      walk_at "s"
      simp only [List.sum_cons, List.sum_nil, join_split, ln_let, ln_split, ln_give, ln_E, ln_in, ln_to, ln__, ln_let_, ln__E_, ln__in_, ln_split_, ln_give_, ln__to_]
      exact And.intro (by omega) (Fin.here q)
    | give x s a =>
      simp only [Wd.toD, Wd.kids] at e0 ⊢
      cases e0
      walk_at "g"
      obtain ⟨hx, hs, _⟩ := hg
      simp only [Wd.dp] at hn
      simp only [Wd.txt, len_app, ln_let, ln_split, ln_give, ln_E, ln_in, ln_to, ln__, ln_let_, ln__E_, ln__in_, ln_split_, ln_give_, ln__to_] at hl
      refine And.intro rfl ⟨s, rfl, by omega, by omega, ?_⟩
      walk_at "g"
      simp only [fJoin]
      walk_at "s"
      simp only [List.sum_cons, List.sum_nil, join_give, ln_let, ln_split, ln_give, ln_E, ln_in, ln_to, ln__, ln_let_, ln__E_, ln__in_, ln_split_, ln_give_, ln__to_]
      exact And.intro (by omega) (Fin.here q)
end
end K50

set_option Elab.async false
set_option linter.all false
set_option maxRecDepth 100000
set_option maxHeartbeats 4000000
namespace K50
open PySem PySem.Spec PyProof.Rows L2 Pz
local macro_rules | `(tactic| walk_at "w") => `(tactic| (try (simp only [wOp, wVar, wC, wB, wAsg, wRet, wDrop, gwName, gwSub, wIfS, wIf, wAndV, wOrV, wNotV, wNot, wAnd, wOr, wCB, wCons, wNil, wTup, wLst, wLstC, wCall, wPar, wAug, wAugS, wNext, wUn, wChain, wSl, wPart, wNoPart, wBM, wBM0, wIsi, wIsi2, fI0, fI, fLt, fLe, fGt, fGe, startD, List.map_cons, List.map_nil, List.length_cons, List.length_nil, List.replicate, List.cons_append, List.nil_append, Nat.reduceAdd, Nat.reduceSub, List.getElem?_cons_zero, List.getElem?_cons_succ, List.set_cons_zero, List.set_cons_succ, gwTup, gwCons, gwNil, true_and, wFor, wLc, wiL, wiR1, wiR2, wiS, wiT, wipeD, wFmt, wJoined, wJs, wTab, gwUnl])))
local macro_rules | `(tactic| walk_at "s") => `(tactic| (try (simp only [wOp, wVar, wC, wB, wAsg, wRet, wDrop, gwName, gwSub, wIfS, wIf, wAndV, wOrV, wNotV, wNot, wAnd, wOr, wCB, wCons, wNil, wTup, wLst, wLstC, wCall, wPar, wAug, wAugS, wNext, wUn, wChain, wSl, wPart, wNoPart, wBM, wBM0, wIsi, wIsi2, fI0, fI, fLt, fLe, fGt, fGe, startD, List.map_cons, List.map_nil, List.length_cons, List.length_nil, List.replicate, List.cons_append, List.nil_append, Nat.reduceAdd, Nat.reduceSub, List.getElem?_cons_zero, List.getElem?_cons_succ, List.set_cons_zero, List.set_cons_succ, gwTup, gwCons, gwNil, true_and, wFor, wLc, wiL, wiR1, wiR2, wiS, wiT, wipeD, wFmt, wJoined, wJs, wTab, gwUnl, fLenT, fLenLs, fEqS, fEqI, fNeS, fNeI, fIxLs, fIxTs, fSlT_1, atD_0, atD_1, atD_2, atD_3, atD_4, Int.cast_ofNat_Int, List.mem_cons, List.not_mem_nil, or_false, false_or, or_true, true_or, decide_true, decide_false, Bool.not_true, Bool.not_false, eq_self, seqOf, strsOf, Option.map_some, fInQ, Bool.false_eq_true, if_false, if_true, ne_num, ne_name, ne_yes, ne_no, ne_none, ne_choose, ne_let, ne_split, ne_give, ne_total, ne_size, ne_plus, ne_times, ne_below, ne_pair, ne_put, ne_join, ne_call, ne_row, ne_fun, ne_truth])))
local macro_rules | `(tactic| walk_at "g") => `(tactic| (repeat (first | (with_reducible refine s_seq ?_) | (with_reducible refine And.intro (by decide) ?_) | (simp only [wOp, wVar, wC, wB, wAsg, wRet, wDrop, gwName, gwSub, wIfS, wIf, wAndV, wOrV, wNotV, wNot, wAnd, wOr, wCB, wCons, wNil, wTup, wLst, wLstC, wCall, wPar, wAug, wAugS, wNext, wUn, wChain, wSl, wPart, wNoPart, wBM, wBM0, wIsi, wIsi2, fI0, fI, fLt, fLe, fGt, fGe, startD, List.map_cons, List.map_nil, List.length_cons, List.length_nil, List.replicate, List.cons_append, List.nil_append, Nat.reduceAdd, Nat.reduceSub, List.getElem?_cons_zero, List.getElem?_cons_succ, List.set_cons_zero, List.set_cons_succ, gwTup, gwCons, gwNil, true_and, wFor, wLc, wiL, wiR1, wiR2, wiS, wiT, wipeD, wFmt, wJoined, wJs, wTab, gwUnl, fLenT, fLenLs, fEqS, fEqI, fNeS, fNeI, fIxLs, fIxTs, fSlT_1, atD_0, atD_1, atD_2, atD_3, atD_4, Int.cast_ofNat_Int, List.mem_cons, List.not_mem_nil, or_false, false_or, or_true, true_or, decide_true, decide_false, Bool.not_true, Bool.not_false, eq_self, seqOf, strsOf, Option.map_some, fInQ, Bool.false_eq_true, if_false, if_true, ne_num, ne_name, ne_yes, ne_no, ne_none, ne_choose, ne_let, ne_split, ne_give, ne_total, ne_size, ne_plus, ne_times, ne_below, ne_pair, ne_put, ne_join, ne_call, ne_row, ne_fun, ne_truth]))))
local macro_rules | `(tactic| walk_at "o") => `(tactic| (repeat (refine And.intro (by omega) ?_)))
local macro_rules | `(tactic| walk_at "a") => `(tactic| (repeat (refine fAddS_to (by first | omega | (simp only [len_app]; omega)) ?_)))
section
variable {P : Program} {w : World} {K : PySem.W.Frag} {mg : Str → Option Value} {base : Heap} {f : Addr} {fd : FuncData}
def pDS (n : Nat) : PSpec := fun ds S Q => ∃ (b : Addr) (d : Int), ds = [.cel b, .int d] ∧ Box S b ∧ 1 ≤ d ∧ d ≤ (n : Int) ∧ ∀ (s : So) S', (s.dp : Int) ≤ d → Box S' b → SB b S S' → Q s.toD S'
theorem no_ds {n : Nat} (hn : n = 0) {vs : List V} {H : Hp} {Q : VK} {E : XK} (h : spP K (pDS n) vs H Q E) : False := by
  subst hn
  obtain ⟨F, S, ds, Qp, ok, rs, ⟨s, d, _, _, h1, h2, _⟩, post⟩ := h
  omega
theorem scDs : FnScope ["_law_box_here", "_law_deep", "_law_way"] ["_law_box_here", "_law_deep"] (defScope (top 9)) := ⟨rfl, rfl, rfl, by decide +kernel, rfl, by decide +kernel, by decide +kernel⟩
theorem ok_ds (Fn : FnP K "_law_data_sort" (top 9) f fd) (T : Txt mg) (hm : mg "_law_data_sort" = some (.ref f)) (hb : Binds K fd ["_law_box_here", "_law_deep"] []) (Ct : Callee P w K mg base 1 "_law_take" ["_law_box_here", "_law_many"] pTake) (n : Nat) : FnOk P w K mg base CX0 (n + 1) f fd ["_law_box_here", "_law_deep"] (spP K (pDS n)) := by
  induction n with
  | zero => exact ⟨fun vs H Q E h => (no_ds rfl h).elim, fun A outer s H args us vs Q E _ _ _ _ h => (no_ds rfl h).elim⟩
  | succ n ih =>
    have Cds : Callee P w K mg base (n + 1) "_law_data_sort" ["_law_box_here", "_law_deep"] (pDS n) := ⟨_, _, ih, hm, Fn.kp, hb⟩
    have sc := scDs
    refine fn_pureD Fn scDs (fun ds S Q h => by obtain ⟨b, d, rfl, _⟩ := h; rfl) fun cdv A outer s H E hr => ⟨_, (dss_cons (ds_set (i := 2) sc.nd (de_f Ct (hr.mono (by first | exact Nat.le_refl _ | decide | omega)) (da_cons (de_v 0) (da_cons de_int da_nil))))
      (dss_cons (ds_if (DW.dt (dw_or (dt_lt (de_v 1) de_int) (dw_or1 (dt_lt (de_v 2) de_int))))
      (dss_one (ds_ret (de_ixL (de_lst (da_cons (de_tup (da_cons de_str da_nil)) (da_cons (de_tup (da_cons de_str da_nil)) (da_cons (de_tup (da_cons de_str da_nil)) da_nil)))) (de_mod (de_v 2) de_int))))
      dss_nil)
      (dss_cons (ds_if (dt_eq (de_v 2) de_int)
      (dss_one (ds_ret (de_tup (da_cons de_str (da_cons (de_f Cds (hr.mono (by first | exact Nat.le_refl _ | decide | omega)) (da_cons (de_v 0) (da_cons (de_sub (de_v 1) de_int) da_nil))) (da_cons (de_f Cds (hr.mono (by first | exact Nat.le_refl _ | decide | omega)) (da_cons (de_v 0) (da_cons (de_sub (de_v 1) de_int) da_nil))) da_nil))))))
      dss_nil)
      (dss_one (ds_ret (de_tup (da_cons de_str (da_cons (de_ixL (de_lst (da_cons (de_tup (da_cons de_str da_nil)) (da_cons (de_f Cds (hr.mono (by first | exact Nat.le_refl _ | decide | omega)) (da_cons (de_v 0) (da_cons (de_sub (de_v 1) de_int) da_nil))) da_nil))) (de_f Ct (hr.mono (by first | exact Nat.le_refl _ | decide | omega)) (da_cons (de_v 0) (da_cons de_int da_nil)))) da_nil)))))))), ?_⟩
    rintro ds S Q ⟨b, d, rfl, hB, hd1, hdn, k⟩
    refine s_seq ?_
    walk_at "s"
    refine ⟨b, 6, rfl, hB, by decide, by decide, fun way S1 a0 a1 B1 sb1 => ?_⟩
    have one : ∀ s : So, s.dp = 1 → Pz.Fin K Q s.toD S1 := fun s hs => Fin.here (k s S1 (by omega) B1 sb1)
    obtain ⟨x, ex, mx⟩ := atD_mem (xs := [D.tup [.str "num"], .tup [.str "num"], .tup [.str "truth"]]) (r := way % 3) (by omega) (by simp; omega)
    have hx : Pz.Fin K Q x S1 := by
      simp only [List.mem_cons, List.not_mem_nil, or_false] at mx
      rcases mx with rfl | rfl | rfl
      · exact one .num rfl
      · exact one .num rfl
      · exact one .truth rfl
    refine s_seq ?_
    walk_at "s"
    by_cases h1 : d < 2
    · simp only [h1, decide_true]
      walk_at "g"
      rw [ex]
      exact hx
    simp only [h1, decide_false]
    by_cases h2 : way < 3
    · simp only [h2, decide_true]
      walk_at "g"
      rw [ex]
      exact hx
    simp only [h2, decide_false]
    walk_at "g"
    by_cases h3 : way = 3
    · simp only [h3, decide_true]
      refine ⟨b, d - 1, rfl, B1, by omega, by omega, fun s2 S2 l2 B2 sb2 => ?_⟩
      refine ⟨b, d - 1, rfl, B2, by omega, by omega, fun s3 S3 l3 B3 sb3 => ?_⟩
      exact ⟨by decide, Fin.here (k (.pair s2 s3) S3 (by simp only [So.dp]; omega) B3 ((sb1.trans sb2).trans sb3))⟩
    simp only [h3, decide_false]
    walk_at "g"
    refine ⟨b, d - 1, rfl, B1, by omega, by omega, fun s2 S2 l2 B2 sb2 => ?_⟩
    refine ⟨by decide, b, 2, rfl, B2, by decide, by decide, fun r S3 r0 r1 B3 sb3 => ?_⟩
    walk_at "s"
    have sb := (sb1.trans sb2).trans sb3
    have hr : r = 0 ∨ r = 1 := by omega
    rcases hr with rfl | rfl
    · walk_at "s"
      exact ⟨by decide, Fin.here (k (.row .num) S3 (by simp only [So.dp]; omega) B3 sb)⟩
    · walk_at "s"
      exact ⟨by decide, Fin.here (k (.row s2) S3 (by simp only [So.dp]; omega) B3 sb)⟩
theorem scAs : FnScope ["_law_box_here", "_law_deep", "_law_way"] ["_law_box_here", "_law_deep"] (defScope (top 20)) := ⟨rfl, rfl, rfl, by decide +kernel, rfl, by decide +kernel, by decide +kernel⟩
theorem ok_as (Fn : FnP K "_law_any_sort" (top 20) f fd) (T : Txt mg) (hm : mg "_law_any_sort" = some (.ref f)) (hb : Binds K fd ["_law_box_here", "_law_deep"] []) (Ct : Callee P w K mg base 1 "_law_take" ["_law_box_here", "_law_many"] pTake)
    (hds : ∀ n, Callee P w K mg base (n + 1) "_law_data_sort" ["_law_box_here", "_law_deep"] (pDS n)) (n : Nat) : FnOk P w K mg base CX0 (n + 1) f fd ["_law_box_here", "_law_deep"] (spP K (pDS n)) := by
  induction n with
  | zero => exact ⟨fun vs H Q E h => (no_ds rfl h).elim, fun A outer s H args us vs Q E _ _ _ _ h => (no_ds rfl h).elim⟩
  | succ n ih =>
    have Cas : Callee P w K mg base (n + 1) "_law_any_sort" ["_law_box_here", "_law_deep"] (pDS n) := ⟨_, _, ih, hm, Fn.kp, hb⟩
    have Cds := hds n
    have sc := scAs
    refine fn_pureD Fn scAs (fun ds S Q h => by obtain ⟨b, d, rfl, _⟩ := h; rfl) fun cdv A outer s H E hr => ⟨_, (dss_cons (ds_if (DW.dt (dw_or (dt_lt (de_v 1) de_int) (dw_or1 (dt_eq (de_f Ct (hr.mono (by first | exact Nat.le_refl _ | decide | omega)) (da_cons (de_v 0) (da_cons de_int da_nil))) de_int))))
      (dss_one (ds_ret (de_ixL (de_lst (da_cons (de_tup (da_cons de_str da_nil)) (da_cons (de_tup (da_cons de_str da_nil)) da_nil))) (de_f Ct (hr.mono (by first | exact Nat.le_refl _ | decide | omega)) (da_cons (de_v 0) (da_cons de_int da_nil))))))
      dss_nil)
      (dss_cons (ds_set (i := 2) sc.nd (de_f Ct (hr.mono (by first | exact Nat.le_refl _ | decide | omega)) (da_cons (de_v 0) (da_cons de_int da_nil))))
      (dss_cons (ds_if (dt_eq (de_v 2) de_int)
      (dss_one (ds_ret (de_tup (da_cons de_str (da_cons (de_f Cds (hr.mono (by first | exact Nat.le_refl _ | decide | omega)) (da_cons (de_v 0) (da_cons (de_sub (de_v 1) de_int) da_nil))) da_nil)))))
      dss_nil)
      (dss_one (ds_ret (de_tup (da_cons (de_ixL (de_lst (da_cons de_str (da_cons de_str da_nil))) (de_sub (de_v 2) de_int)) (da_cons (de_f Cas (hr.mono (by first | exact Nat.le_refl _ | decide | omega)) (da_cons (de_v 0) (da_cons (de_sub (de_v 1) de_int) da_nil))) (da_cons (de_f Cas (hr.mono (by first | exact Nat.le_refl _ | decide | omega)) (da_cons (de_v 0) (da_cons (de_sub (de_v 1) de_int) da_nil))) da_nil))))))))), ?_⟩
    rintro ds S Q ⟨b, d, rfl, hB, hd1, hdn, k⟩
    have leaf : ∀ S1, Box S1 b → SB b S S1 → pTake [.cel b, .int 2] S1 fun x S2 => fIxL (.lst [.tup [.str "num"], .tup [.str "truth"]]) x S2 (Pz.Fin K Q) := by
      intro S1 B1 sb1
      refine ⟨b, 2, rfl, B1, by decide, by decide, fun r S2 r0 r1 B2 sb2 => ?_⟩
      have hr : r = 0 ∨ r = 1 := by omega
      rcases hr with rfl | rfl
      · walk_at "s"
        exact Fin.here (k .num S2 (by simp only [So.dp]; omega) B2 (sb1.trans sb2))
      · walk_at "s"
        exact Fin.here (k .truth S2 (by simp only [So.dp]; omega) B2 (sb1.trans sb2))
    refine s_seq ?_
    walk_at "s"
    by_cases h1 : d < 2
    · simp only [h1, decide_true]
      walk_at "g"
      exact leaf S hB (SB.refl _ _)
    simp only [h1, decide_false]
    refine ⟨b, 4, rfl, hB, by decide, by decide, fun r4 S1 a0 a1 B1 sb1 => ?_⟩
    walk_at "s"
    by_cases h2 : r4 = 0
    · simp only [h2, decide_true]
      walk_at "g"
      exact leaf S1 B1 sb1
    simp only [h2, decide_false]
    walk_at "g"
    refine ⟨b, 3, rfl, B1, by decide, by decide, fun way S2 b0 b1 B2 sb2 => ?_⟩
    walk_at "g"
    by_cases h3 : way = 0
    · simp only [h3, decide_true]
      walk_at "g"
      refine ⟨b, d - 1, rfl, B2, by omega, by omega, fun s2 S3 l2 B3 sb3 => ?_⟩
      exact ⟨by decide, Fin.here (k (.row s2) S3 (by simp only [So.dp]; omega) B3 ((sb1.trans sb2).trans sb3))⟩
    simp only [h3, decide_false]
    walk_at "g"
    have hw : way - 1 = 0 ∨ way - 1 = 1 := by omega
    rcases hw with hw | hw
    · rw [hw]
      walk_at "s"
      refine ⟨b, d - 1, rfl, B2, by omega, by omega, fun s2 S3 l2 B3 sb3 => ?_⟩
      refine ⟨b, d - 1, rfl, B3, by omega, by omega, fun s3 S4 l3 B4 sb4 => ?_⟩
      exact ⟨by decide, Fin.here (k (.pair s2 s3) S4 (by simp only [So.dp]; omega) B4 (((sb1.trans sb2).trans sb3).trans sb4))⟩
    · rw [hw]
      walk_at "s"
      refine ⟨b, d - 1, rfl, B2, by omega, by omega, fun s2 S3 l2 B3 sb3 => ?_⟩
      refine ⟨b, d - 1, rfl, B3, by omega, by omega, fun s3 S4 l3 B4 sb4 => ?_⟩
      exact ⟨by decide, Fin.here (k (.fn s2 s3) S4 (by simp only [So.dp]; omega) B4 (((sb1.trans sb2).trans sb3).trans sb4))⟩
/-! ### constants -/
def pCo (n : Nat) : PSpec := fun ds S Q => ∃ (b : Addr) (s : So), ds = [.cel b, s.toD] ∧ Box S b ∧ s.dp ≤ n ∧ s.dp ≤ 6 ∧ ∀ (w : Wd) S', w.good → w.dp ≤ 2 * n → w.sz ≤ 8 ^ n → Box S' b → SB b S S' → Q w.toD S'
theorem no_co {n : Nat} (hn : n = 0) {vs : List V} {H : Hp} {Q : VK} {E : XK} (h : spP K (pCo n) vs H Q E) : False := by
  subst hn
  obtain ⟨F, S, ds, Qp, ok, rs, ⟨b, s, _, _, h1, _⟩, post⟩ := h
  have := s.dp_pos
  omega
theorem eqN {s : So} {S : Store} {Q : PQ} (q : Q (.bl s.isNum) S) : fEqD false s.toD (.tup [.str "num"]) S Q := by
  have e : toPy (.tup [.str "num"]) = some (.tuple [.str "num"]) := rfl
  simp only [fEqD, So.toPy_is, e, So.eq_num, Bool.false_eq_true, if_false]
  exact ⟨Nat.le_trans (Nat.min_le_right _ _) (by decide), q⟩
theorem eqT {s : So} {S : Store} {Q : PQ} (q : Q (.bl s.isTruth) S) : fEqD false s.toD (.tup [.str "truth"]) S Q := by
  have e : toPy (.tup [.str "truth"]) = some (.tuple [.str "truth"]) := rfl
  simp only [fEqD, So.toPy_is, e, So.eq_truth, Bool.false_eq_true, if_false]
  exact ⟨Nat.le_trans (Nat.min_le_right _ _) (by decide), q⟩
theorem scCo : FnScope ["_law_box_here", "_law_sort", "_law_word_here", "_law_k"] ["_law_box_here", "_law_sort"] (defScope (top 10)) := ⟨rfl, rfl, rfl, by decide +kernel, rfl, by decide +kernel, by decide +kernel⟩
theorem ok_co (Fn : FnP K "_law_constant" (top 10) f fd) (T : Txt mg) (hm : mg "_law_constant" = some (.ref f)) (hb : Binds K fd ["_law_box_here", "_law_sort"] []) (Ct : Callee P w K mg base 1 "_law_take" ["_law_box_here", "_law_many"] pTake) (n : Nat) : FnOk P w K mg base CX0 (n + 1) f fd ["_law_box_here", "_law_sort"] (spP K (pCo n)) := by
  induction n with
  | zero => exact ⟨fun vs H Q E h => (no_co rfl h).elim, fun A outer s H args us vs Q E _ _ _ _ h => (no_co rfl h).elim⟩
  | succ n ih =>
    have Cco : Callee P w K mg base (n + 1) "_law_constant" ["_law_box_here", "_law_sort"] (pCo n) := ⟨_, _, ih, hm, Fn.kp, hb⟩
    have sc := scCo
    refine fn_pureD Fn scCo (fun ds S Q h => by obtain ⟨b, d, rfl, _⟩ := h; rfl) fun cdv A outer s H E hr => ⟨_, (dss_cons (ds_if (dt_eqD (hu_of hr) (de_v 1) (de_tup (da_cons de_str da_nil)))
      (dss_one (ds_ret (de_tup (da_cons de_str (da_cons (de_ixL (de_lst (da_cons de_int (da_cons de_int (da_cons (de_f Ct (hr.mono (by first | exact Nat.le_refl _ | decide | omega)) (da_cons (de_v 0) (da_cons de_int da_nil))) (da_cons (de_f Ct (hr.mono (by first | exact Nat.le_refl _ | decide | omega)) (da_cons (de_v 0) (da_cons de_int da_nil))) da_nil))))) (de_f Ct (hr.mono (by first | exact Nat.le_refl _ | decide | omega)) (da_cons (de_v 0) (da_cons de_int da_nil)))) da_nil)))))
      dss_nil)
      (dss_cons (ds_if (dt_eqD (hu_of hr) (de_v 1) (de_tup (da_cons de_str da_nil)))
      (dss_one (ds_ret (de_ixL (de_lst (da_cons (de_tup (da_cons de_str da_nil)) (da_cons (de_tup (da_cons de_str da_nil)) da_nil))) (de_f Ct (hr.mono (by first | exact Nat.le_refl _ | decide | omega)) (da_cons (de_v 0) (da_cons de_int da_nil))))))
      dss_nil)
      (dss_cons (ds_if (dt_eq (de_ixT (de_v 1) de_int) de_str)
      (dss_one (ds_ret (de_tup (da_cons de_str (da_cons (de_f Cco (hr.mono (by first | exact Nat.le_refl _ | decide | omega)) (da_cons (de_v 0) (da_cons (de_ixT (de_v 1) de_int) da_nil))) (da_cons (de_f Cco (hr.mono (by first | exact Nat.le_refl _ | decide | omega)) (da_cons (de_v 0) (da_cons (de_ixT (de_v 1) de_int) da_nil))) da_nil))))))
      dss_nil)
      (dss_cons (ds_set (i := 2) sc.nd (de_tup (da_cons de_str (da_cons (de_ixT (de_v 1) de_int) da_nil))))
      (dss_cons (ds_for PassesOwn.never rfl (di_range1 T.range (de_f Ct (hr.mono (by first | exact Nat.le_refl _ | decide | omega)) (da_cons (de_v 0) (da_cons de_int da_nil)))) (dg_name (i := 3) sc.nd)
      (dss_one (ds_set (i := 2) sc.nd (de_tup (da_cons de_str (da_cons (de_f Cco (hr.mono (by first | exact Nat.le_refl _ | decide | omega)) (da_cons (de_v 0) (da_cons (de_ixT (de_v 1) de_int) da_nil))) (da_cons (de_v 2) da_nil)))))))
      (dss_one (ds_ret (de_v 2)))))))), ?_⟩
    rintro ds S Q ⟨b, s, rfl, hB, hd, hd6, k⟩
    have h8 : 1 ≤ 8 ^ n := Nat.pos_of_ne_zero (by simp)
    have e8 : 8 ^ (n + 1) = 8 * 8 ^ n := by rw [Nat.pow_succ]; omega
    refine s_seq ?_
    walk_at "g"
    refine eqN ?_
    have small : ∀ (w : Wd) S', w.good → w.dp = 1 → w.sz = 1 → Box S' b → SB b S S' → Pz.Fin K Q w.toD S' := fun w S' g d z B sb => Fin.here (k w S' g (by omega) (by omega) B sb)
    cases s with
    | num =>
      simp only [So.isNum]
      refine ⟨b, 4, rfl, hB, by decide, by decide, fun r1 S1 a0 a1 B1 sb1 => ?_⟩
      refine ⟨b, 10, rfl, B1, by decide, by decide, fun r2 S2 b0 b1 B2 sb2 => ?_⟩
      refine ⟨by decide, b, 4, rfl, B2, by decide, by decide, fun r3 S3 c0 c1 B3 sb3 => ?_⟩
      obtain ⟨x, ex, mx⟩ := atD_mem (xs := [D.int 0, .int 1, .int r1, .int r2]) c0 (by simpa using c1)
      walk_at "s"
      rw [ex]
      have sb := (sb1.trans sb2).trans sb3
      obtain ⟨m, rfl, hm9⟩ : ∃ m : Nat, x = .int (m : Int) ∧ m ≤ 9 := by
        simp only [List.mem_cons, List.not_mem_nil, or_false] at mx
        rcases mx with rfl | rfl | rfl | rfl
        · exact ⟨0, rfl, by decide⟩
        · exact ⟨1, rfl, by decide⟩
        · exact ⟨r1.toNat, by rw [Int.toNat_of_nonneg a0], by omega⟩
        · exact ⟨r2.toNat, by rw [Int.toNat_of_nonneg b0], by omega⟩
      exact ⟨by decide, small (.num m) S3 hm9 rfl rfl B3 sb⟩
    | truth =>
      simp only [So.isNum]
      refine s_seq ?_
      walk_at "g"
      refine eqT (s := .truth) ?_
      simp only [So.isTruth]
      walk_at "g"
      refine ⟨b, 2, rfl, hB, by decide, by decide, fun r S1 r0 r1 B1 sb1 => ?_⟩
      have hr : r = 0 ∨ r = 1 := by omega
      rcases hr with rfl | rfl
      · walk_at "s"
        exact small .yes S1 trivial rfl rfl B1 sb1
      · walk_at "s"
        exact small .no S1 trivial rfl rfl B1 sb1
    | pair s1 s2 =>
      simp only [So.isNum]
      refine s_seq ?_
      walk_at "g"
      refine eqT ?_
      simp only [So.isTruth, So.toD]
      walk_at "g"
      have h1 : s1.dp ≤ n := by simp only [So.dp] at hd; omega
      have h2 : s2.dp ≤ n := by simp only [So.dp] at hd; omega
      have h16 : s1.dp ≤ 6 := by simp only [So.dp] at hd6; omega
      have h26 : s2.dp ≤ 6 := by simp only [So.dp] at hd6; omega
      refine ⟨b, s1, rfl, hB, h1, h16, fun w1 S1 g1 d1 z1 B1 sb1 => ?_⟩
      refine ⟨b, s2, rfl, B1, h2, h26, fun w2 S2 g2 d2 z2 B2 sb2 => ?_⟩
      exact ⟨by decide, Fin.here (k (.bin .pair w1 w2) S2 ⟨g1, g2⟩ (by simp only [Wd.dp]; omega) (by simp only [Wd.sz]; omega) B2 (sb1.trans sb2))⟩
    | row a =>
      simp only [So.isNum]
      refine s_seq ?_
      walk_at "g"
      refine eqT ?_
      simp only [So.isTruth]
      simp only [So.toD]
      walk_at "g"
      have ha : a.dp ≤ n := by simp only [So.dp] at hd; omega
      have ha6 : a.dp ≤ 5 := by simp only [So.dp] at hd6; omega
      have hn1 : 1 ≤ n := by have := a.dp_pos; omega
      refine ⟨b, 3, rfl, hB, by decide, by decide, fun r S1 r0 r1 B1 sb1 => ?_⟩
      walk_at "s"
      refine ⟨⟨by omega, by omega⟩, ?_⟩
      refine for_go (fun i env S' => Box S' b ∧ SB b S S' ∧ ∃ (w : Wd) (o : Option D), env = [some (.cel b), some (.tup [.str "row", a.toD]), some w.toD, o] ∧ w.good ∧ w.dp ≤ 2 * n + i ∧ w.sz ≤ 1 + i * (8 ^ n + 1) ∧ (i : Int) ≤ r) ⟨B1, sb1, .none a, none, rfl, by show a.dp ≤ 6; omega, by simp only [Wd.dp]; omega, by simp [Wd.sz], by omega⟩ ?_ ?_
      · rintro i x env S' hx ⟨B, sb, w, o, rfl, hg, hw, hz, hi⟩
        have hi2 : (i : Int) < r := by
          have := (List.getElem?_eq_some_iff.mp hx).1
          simp [rangeD] at this
          omega
        walk_at "g"
        refine ⟨b, a, rfl, B, ha, by omega, fun w2 S2 g2 d2 z2 B2 sb2 => ?_⟩
        refine ⟨by decide, B2, sb.trans sb2, .bin .put w2 w, _, rfl, ⟨g2, hg⟩, by simp only [Wd.dp]; omega, ?_, by omega⟩
        simp only [Wd.sz]
        rw [Nat.add_mul, Nat.one_mul]
        omega
      · rintro i env S' hx ⟨B, sb, w, o, rfl, hg, hw, hz, hi⟩
        walk_at "g"
        have hi2 : i = 0 ∨ i = 1 ∨ i = 2 := by omega
        exact Fin.here (k w S' hg (by omega) (by rw [e8]; rcases hi2 with rfl | rfl | rfl <;> omega) B sb)
    | fn a c =>
      simp only [So.isNum]
      refine s_seq ?_
      walk_at "g"
      refine eqT ?_
      simp only [So.isTruth]
      simp only [So.toD]
      walk_at "g"
      have ha : a.dp ≤ n := by simp only [So.dp] at hd; omega
      have ha6 : a.dp ≤ 5 := by simp only [So.dp] at hd6; omega
      have hn1 : 1 ≤ n := by have := a.dp_pos; omega
      refine ⟨b, 3, rfl, hB, by decide, by decide, fun r S1 r0 r1 B1 sb1 => ?_⟩
      walk_at "s"
      refine ⟨⟨by omega, by omega⟩, ?_⟩
      refine for_go (fun i env S' => Box S' b ∧ SB b S S' ∧ ∃ (w : Wd) (o : Option D), env = [some (.cel b), some (.tup [.str "fun", a.toD, c.toD]), some w.toD, o] ∧ w.good ∧ w.dp ≤ 2 * n + i ∧ w.sz ≤ 1 + i * (8 ^ n + 1) ∧ (i : Int) ≤ r) ⟨B1, sb1, .none a, none, rfl, by show a.dp ≤ 6; omega, by simp only [Wd.dp]; omega, by simp [Wd.sz], by omega⟩ ?_ ?_
      · rintro i x env S' hx ⟨B, sb, w, o, rfl, hg, hw, hz, hi⟩
        have hi2 : (i : Int) < r := by
          have := (List.getElem?_eq_some_iff.mp hx).1
          simp [rangeD] at this
          omega
        walk_at "g"
        refine ⟨b, a, rfl, B, ha, by omega, fun w2 S2 g2 d2 z2 B2 sb2 => ?_⟩
        refine ⟨by decide, B2, sb.trans sb2, .bin .put w2 w, _, rfl, ⟨g2, hg⟩, by simp only [Wd.dp]; omega, ?_, by omega⟩
        simp only [Wd.sz]
        rw [Nat.add_mul, Nat.one_mul]
        omega
      · rintro i env S' hx ⟨B, sb, w, o, rfl, hg, hw, hz, hi⟩
        walk_at "g"
        have hi2 : i = 0 ∨ i = 1 ∨ i = 2 := by omega
        exact Fin.here (k w S' hg (by omega) (by rw [e8]; rcases hi2 with rfl | rfl | rfl <;> omega) B sb)
end
end K50

set_option Elab.async false
set_option linter.all false
set_option maxRecDepth 100000
set_option maxHeartbeats 4000000
namespace K50
open PySem PySem.Spec PyProof.Rows L2 Pz
local macro_rules | `(tactic| walk_at "w") => `(tactic| (try (simp only [wOp, wVar, wC, wB, wAsg, wRet, wDrop, gwName, gwSub, wIfS, wIf, wAndV, wOrV, wNotV, wNot, wAnd, wOr, wCB, wCons, wNil, wTup, wLst, wLstC, wCall, wPar, wAug, wAugS, wNext, wUn, wChain, wSl, wPart, wNoPart, wBM, wBM0, wIsi, wIsi2, fI0, fI, fLt, fLe, fGt, fGe, startD, List.map_cons, List.map_nil, List.length_cons, List.length_nil, List.replicate, List.cons_append, List.nil_append, Nat.reduceAdd, Nat.reduceSub, List.getElem?_cons_zero, List.getElem?_cons_succ, List.set_cons_zero, List.set_cons_succ, gwTup, gwCons, gwNil, true_and, wFor, wLc, wiL, wiR1, wiR2, wiS, wiT, wipeD, wFmt, wJoined, wJs, wTab, gwUnl])))
local macro_rules | `(tactic| walk_at "s") => `(tactic| (try (simp only [wOp, wVar, wC, wB, wAsg, wRet, wDrop, gwName, gwSub, wIfS, wIf, wAndV, wOrV, wNotV, wNot, wAnd, wOr, wCB, wCons, wNil, wTup, wLst, wLstC, wCall, wPar, wAug, wAugS, wNext, wUn, wChain, wSl, wPart, wNoPart, wBM, wBM0, wIsi, wIsi2, fI0, fI, fLt, fLe, fGt, fGe, startD, List.map_cons, List.map_nil, List.length_cons, List.length_nil, List.replicate, List.cons_append, List.nil_append, Nat.reduceAdd, Nat.reduceSub, List.getElem?_cons_zero, List.getElem?_cons_succ, List.set_cons_zero, List.set_cons_succ, gwTup, gwCons, gwNil, true_and, wFor, wLc, wiL, wiR1, wiR2, wiS, wiT, wipeD, wFmt, wJoined, wJs, wTab, gwUnl, fLenT, fLenLs, fEqS, fEqI, fNeS, fNeI, fIxLs, fIxTs, fSlT_1, atD_0, atD_1, atD_2, atD_3, atD_4, Int.cast_ofNat_Int, List.mem_cons, List.not_mem_nil, or_false, false_or, or_true, true_or, decide_true, decide_false, Bool.not_true, Bool.not_false, eq_self, seqOf, strsOf, Option.map_some, fInQ, Bool.false_eq_true, if_false, if_true, ne_num, ne_name, ne_yes, ne_no, ne_none, ne_choose, ne_let, ne_split, ne_give, ne_total, ne_size, ne_plus, ne_times, ne_below, ne_pair, ne_put, ne_join, ne_call, ne_row, ne_fun, ne_truth])))
local macro_rules | `(tactic| walk_at "g") => `(tactic| (repeat (first | (with_reducible refine s_seq ?_) | (with_reducible refine And.intro (by decide) ?_) | (simp only [wOp, wVar, wC, wB, wAsg, wRet, wDrop, gwName, gwSub, wIfS, wIf, wAndV, wOrV, wNotV, wNot, wAnd, wOr, wCB, wCons, wNil, wTup, wLst, wLstC, wCall, wPar, wAug, wAugS, wNext, wUn, wChain, wSl, wPart, wNoPart, wBM, wBM0, wIsi, wIsi2, fI0, fI, fLt, fLe, fGt, fGe, startD, List.map_cons, List.map_nil, List.length_cons, List.length_nil, List.replicate, List.cons_append, List.nil_append, Nat.reduceAdd, Nat.reduceSub, List.getElem?_cons_zero, List.getElem?_cons_succ, List.set_cons_zero, List.set_cons_succ, gwTup, gwCons, gwNil, true_and, wFor, wLc, wiL, wiR1, wiR2, wiS, wiT, wipeD, wFmt, wJoined, wJs, wTab, gwUnl, fLenT, fLenLs, fEqS, fEqI, fNeS, fNeI, fIxLs, fIxTs, fSlT_1, atD_0, atD_1, atD_2, atD_3, atD_4, Int.cast_ofNat_Int, List.mem_cons, List.not_mem_nil, or_false, false_or, or_true, true_or, decide_true, decide_false, Bool.not_true, Bool.not_false, eq_self, seqOf, strsOf, Option.map_some, fInQ, Bool.false_eq_true, if_false, if_true, ne_num, ne_name, ne_yes, ne_no, ne_none, ne_choose, ne_let, ne_split, ne_give, ne_total, ne_size, ne_plus, ne_times, ne_below, ne_pair, ne_put, ne_join, ne_call, ne_row, ne_fun, ne_truth]))))
local macro_rules | `(tactic| walk_at "o") => `(tactic| (repeat (refine And.intro (by omega) ?_)))
local macro_rules | `(tactic| walk_at "a") => `(tactic| (repeat (refine fAddS_to (by first | omega | (simp only [len_app]; omega)) ?_)))
section
variable {P : Program} {w : World} {K : PySem.W.Frag} {mg : Str → Option Value} {base : Heap} {f : Addr} {fd : FuncData}
def ent (p : Str × So) : D := .tup [.str p.1, p.2.toD]
structure ScOk (m : Nat) (sc : List (Str × So)) : Prop where
  len : sc.length ≤ m
  small : ∀ p ∈ sc, p.1.length ≤ 8 ∧ p.2.dp ≤ 3
def pLe : PSpec := fun ds S Q => ∃ (b : Addr) (sc : List (Str × So)) (s : So), ds = [.cel b, .lst (sc.map ent), s.toD] ∧ Box S b ∧ ScOk 40 sc ∧ s.dp ≤ 3 ∧ ∀ (w : Wd) S', w.good → w.dp ≤ 6 → w.sz ≤ 512 → Box S' b → SB b S S' → Q w.toD S'
theorem eqSo {s t : So} {S : Store} {Q : PQ} (hs : s.dp ≤ 6) (q : Q (.bl (PyData.eqv s.py t.py)) S) : fEqD false s.toD t.toD S Q := by
  simp only [fEqD, So.toPy_is, Bool.false_eq_true, if_false]
  exact ⟨Nat.le_trans (Nat.min_le_left _ _) (by have := s.py_dp; omega), q⟩
theorem toPys_strs : ∀ xs : List Str, toPys (xs.map D.str) = some (xs.map PyData.str)
  | [] => rfl
  | x :: xs => by simp only [List.map_cons, toPys, toPy, toPys_strs xs]
theorem neNil {xs : List Str} {S : Store} {Q : PQ} (q : Q (.bl (!xs.isEmpty)) S) : fEqD true (.lst (xs.map D.str)) (.lst []) S Q := by
  have e1 : toPy (.lst (xs.map D.str)) = some (.list (xs.map PyData.str)) := by simp only [toPy, toPys_strs, Option.map_some]
  have e2 : toPy (.lst []) = some (.list []) := rfl
  have e3 : PyData.eqv (.list (xs.map PyData.str)) (.list []) = xs.isEmpty := by cases xs <;> rfl
  simp only [fEqD, e1, e2, e3, if_true]
  exact ⟨Nat.le_trans (Nat.min_le_right _ _) (by decide), q⟩
theorem atD_last {xs : List D} {x : D} : atD (xs ++ [x]) (-1) = some x := by
  unfold atD ixN
  simp
  rw [if_pos (by omega), show ((-1 : Int) + ((xs.length : Int) + 1)).toNat = xs.length by omega]
  simp
def heldOf (sco : List (Str × So)) (z : Str) : List So := sco.filterMap fun p => if p.1 = z then some p.2 else none
theorem held_map (sco : List (Str × So)) (z : Str) : sco.filterMap (fun p => if p.1 = z then some p.2.toD else none) = (heldOf sco z).map So.toD := by
  unfold heldOf
  rw [List.map_filterMap]
  congr 1
  funext p
  split <;> rfl
theorem scLe : FnScope ["_law_box_here", "_law_scope", "_law_sort", "_law_fit", "_law_name", "_law_held", "_law_last", "_law_one"] ["_law_box_here", "_law_scope", "_law_sort"] (defScope (top 11)) := ⟨rfl, rfl, rfl, by decide +kernel, rfl, by decide +kernel, by decide +kernel⟩
theorem ok_le (Fn : FnP K "_law_leaf" (top 11) f fd) (T : Txt mg) (Ct : Callee P w K mg base 1 "_law_take" ["_law_box_here", "_law_many"] pTake) (Cco : Callee P w K mg base 4 "_law_constant" ["_law_box_here", "_law_sort"] (pCo 3)) : FnOk P w K mg base CX0 5 f fd ["_law_box_here", "_law_scope", "_law_sort"] (spP K pLe) := by
  have sc := scLe
  refine fn_pureD Fn scLe (fun ds S Q h => by obtain ⟨b, d, s, rfl, _⟩ := h; rfl) fun cdv A outer s H E hr => ⟨_, (dss_cons (ds_setLc (i := 3) (own := [("_law_name", 4), ("_law_held", 5)]) rfl sc.nd (di_list (de_v 1)) (blkOk_by (N := ["_law_box_here", "_law_scope", "_law_sort", "_law_fit", "_law_name", "_law_held", "_law_last", "_law_one"]) (sc := defScope (top 11)) (by decide +kernel)) (fun _ _ _ _ _ => (dg_tup (n := 2) rfl (dgs_cons (dg_name (i := 4) sc.nd) (dgs_cons (dg_name (i := 5) sc.nd) dgs_nil)))) (fun _ _ _ _ _ => (dts_one (dt_eqD (hu_of hr) (de_v 5) (de_v 2)))) (fun _ _ _ _ _ => (de_v 4)) (sw_true rfl rfl rfl (by decide +kernel)))
      (dss_cons (ds_setLc (i := 6) (own := [("_law_name", 4)]) rfl sc.nd (di_list (de_v 3)) (blkOk_by (N := ["_law_box_here", "_law_scope", "_law_sort", "_law_fit", "_law_name", "_law_held", "_law_last", "_law_one"]) (sc := defScope (top 11)) (by decide +kernel)) (fun _ _ _ _ _ => (dg_name (i := 4) sc.nd)) (fun _ _ _ _ _ => (dts_one (dt_eqD (hu_of hr) (de_ixL (de_lc (own := [("_law_one", 7), ("_law_held", 5)]) rfl sc.nd (di_list (de_v 1)) (blkOk_by (N := ["_law_box_here", "_law_scope", "_law_sort", "_law_fit", "_law_name", "_law_held", "_law_last", "_law_one"]) (sc := ({ kind := .function, names := [(".0", .local), ("_law_name", .cell), ("_law_scope", .cell), ("_law_sort", .cell)], isGenerator := false, isCoroutine := false } : Scope)) (by decide +kernel)) (fun _ _ _ _ _ => (dg_tup (n := 2) rfl (dgs_cons (dg_name (i := 7) sc.nd) (dgs_cons (dg_name (i := 5) sc.nd) dgs_nil)))) (fun _ _ _ _ _ => (dts_one (dt_eq (de_v 7) (de_v 4)))) (fun _ _ _ _ _ => (de_v 5))) (de_neg de_int)) (de_v 2)))) (fun _ _ _ _ _ => (de_v 4)) (sw_true rfl rfl rfl (by decide +kernel)))
      (dss_cons (ds_if (DW.dt (dw_and (dt_neD (hu_of hr) (de_v 6) (de_lst da_nil)) (dw_and1 (dt_gt (de_f Ct (hr.mono (by first | exact Nat.le_refl _ | decide | omega)) (da_cons (de_v 0) (da_cons de_int da_nil))) de_int))))
      (dss_one (ds_ret (de_tup (da_cons de_str (da_cons (de_ixL (de_v 6) (de_f Ct (hr.mono (by first | exact Nat.le_refl _ | decide | omega)) (da_cons (de_v 0) (da_cons (de_lenL T.len (de_v 6)) da_nil)))) da_nil)))))
      dss_nil)
      (dss_one (ds_ret (de_f Cco (hr.mono (by first | exact Nat.le_refl _ | decide | omega)) (da_cons (de_v 0) (da_cons (de_v 2) da_nil)))))))), ?_⟩
  rintro ds S Q ⟨b, sco, s, rfl, hB, hsc, hs, k⟩
  have h100 := sizeLine_big
  have hl40 := hsc.len
  refine s_seq ?_
  walk_at "s"
  refine lc_fm (ys := sco) (mk := ent) (fun p => if PyData.eqv p.2.py s.py then some (.str p.1) else none) (by omega) (fun p hp R N hR hN => ?_) ?_
  · obtain ⟨l1, l2⟩ := hsc.small p hp
    simp only [ent]
    walk_at "s"
    refine eqSo (by omega) ?_
    cases he : PyData.eqv p.2.py s.py with
    | true => walk_at "s"; exact hR _ (by rw [he]; rfl)
    | false => walk_at "s"; exact hN (by rw [he]; rfl)
  obtain ⟨fitS, hfit⟩ : ∃ fitS, fitS = sco.filterMap (fun p => if PyData.eqv p.2.py s.py then some p.1 else none) := ⟨_, rfl⟩
  have e1 : sco.filterMap (fun p => if PyData.eqv p.2.py s.py then some (D.str p.1) else none) = fitS.map D.str := by
    rw [hfit, List.map_filterMap]
    congr 1
    funext p
    split <;> rfl
  have hin : ∀ z ∈ fitS, ∃ p ∈ sco, p.1 = z := by
    intro z hz
    rw [hfit, List.mem_filterMap] at hz
    obtain ⟨p, hp, e⟩ := hz
    refine ⟨p, hp, ?_⟩
    split at e
    · exact Option.some.inj e
    · cases e
  have lfit : fitS.length ≤ 40 := by rw [hfit]; exact Nat.le_trans (List.length_filterMap_le _ _) hl40
  rw [e1]
  refine s_seq ?_
  walk_at "s"
  refine lc_fm (ys := fitS) (mk := D.str) (fun z => match (heldOf sco z).getLast? with | some t => if PyData.eqv t.py s.py then some (.str z) else none | none => none) (by omega) (fun z hz R N hR hN => ?_) ?_
  · walk_at "s"
    refine lc_fm (ys := sco) (mk := ent) (fun p => if p.1 = z then some p.2.toD else none) (by omega) (fun p hp R2 N2 hR2 hN2 => ?_) ?_
    · simp only [ent]
      walk_at "s"
      by_cases he : p.1 = z
      · simp only [he, decide_true]
        exact hR2 _ (by rw [if_pos he])
      · simp only [he, decide_false]
        exact hN2 (by rw [if_neg he])
    obtain ⟨p, hp, ep⟩ := hin z hz
    have hne : heldOf sco z ≠ [] := fun hh => by
      have : p.2 ∈ heldOf sco z := List.mem_filterMap.mpr ⟨p, hp, by rw [if_pos ep]⟩
      rw [hh] at this
      cases this
    rw [held_map]
    obtain ⟨ts, t, ht⟩ : ∃ ts t, heldOf sco z = ts ++ [t] := ⟨(heldOf sco z).dropLast, (heldOf sco z).getLast hne, (List.dropLast_concat_getLast hne).symm⟩
    have htm : t.dp ≤ 3 := by
      have : t ∈ heldOf sco z := by rw [ht]; simp
      obtain ⟨p', hp', e'⟩ := List.mem_filterMap.mp this
      split at e'
      · cases e'
        exact (hsc.small p' hp').2
      · cases e'
    rw [ht, List.map_append]
    simp only [fNeg]
    refine fIxL_to (xs := ts.map So.toD ++ [t.toD]) (by rfl) atD_last ?_
    refine eqSo (by omega) ?_
    have hlast : (heldOf sco z).getLast? = some t := by rw [ht]; simp
    cases he : PyData.eqv t.py s.py with
    | true => walk_at "s"; exact hR _ (by rw [hlast]; simp only [he, if_true])
    | false => walk_at "s"; exact hN (by rw [hlast]; simp only [he, Bool.false_eq_true, if_false])
  obtain ⟨la, hla⟩ : ∃ la, la = fitS.filterMap (fun z => match (heldOf sco z).getLast? with | some t => if PyData.eqv t.py s.py then some z else none | none => none) := ⟨_, rfl⟩
  have e2 : fitS.filterMap (fun z => match (heldOf sco z).getLast? with | some t => if PyData.eqv t.py s.py then some (D.str z) else none | none => none) = la.map D.str := by
    rw [hla, List.map_filterMap]
    congr 1
    funext z
    split
    · split <;> rfl
    · rfl
  have hlam : ∀ z ∈ la, z.length ≤ 8 := by
    intro z hz
    rw [hla, List.mem_filterMap] at hz
    obtain ⟨y, hy, e⟩ := hz
    have : y = z := by
      split at e
      · split at e
        · exact Option.some.inj e
        · cases e
      · cases e
    subst this
    obtain ⟨p, hp, ep⟩ := hin y hy
    rw [← ep]
    exact (hsc.small p hp).1
  have lla : la.length ≤ 40 := by rw [hla]; exact Nat.le_trans (List.length_filterMap_le _ _) lfit
  rw [e2]
  have fin : ∀ S1, Box S1 b → SB b S S1 → pCo 3 [.cel b, s.toD] S1 (Pz.Fin K Q) := fun S1 B1 sb1 => ⟨b, s, rfl, B1, hs, by omega, fun w S2 g d z B2 sb2 => Fin.here (k w S2 g d z B2 (sb1.trans sb2))⟩
  refine s_seq ?_
  walk_at "s"
  refine And.intro (by decide) (neNil ?_)
  walk_at "s"
  cases hemp : la.isEmpty with
  | true =>
    walk_at "s"
    exact fin S hB (SB.refl _ _)
  | false =>
    walk_at "s"
    refine ⟨b, 4, rfl, hB, by decide, by decide, fun r S1 r0 r1 B1 sb1 => ?_⟩
    walk_at "s"
    by_cases h0 : 0 < r
    · simp only [h0, decide_true]
      walk_at "s"
      have hpos : 0 < la.length := by
        cases la with
        | nil => cases hemp
        | cons _ _ => simp
      refine ⟨b, _, rfl, B1, by simp; omega, by simp; omega, fun r2 S2 q0 q1 B2 sb2 => ?_⟩
      obtain ⟨x, ex, mx⟩ := atD_mem (xs := la.map D.str) q0 q1
      refine fIxL_to (by rfl) ex ?_
      obtain ⟨z, hz, rfl⟩ := List.mem_map.mp mx
      exact ⟨by decide, Fin.here (k (.name z) S2 (hlam z hz) (by show 1 ≤ 6; decide) (by show 1 ≤ 512; decide) B2 (sb1.trans sb2))⟩
    · simp only [h0, decide_false]
      walk_at "s"
      exact fin S1 B1 sb1
end
end K50

set_option Elab.async false
set_option linter.all false
namespace Pz
open PySem PySem.Spec PyProof.Rows L2
theorem s_next {nx : En → Store → Prop} {rt : PQ} {bk ct : En → Store → Prop} {env : En} {S : Store} (h : nx env S) : wNext ⟨nx, rt, bk, ct⟩ env S := h
end Pz

set_option Elab.async false
set_option linter.all false
set_option maxRecDepth 100000
set_option maxHeartbeats 4000000
namespace K50
open PySem PySem.Spec PyProof.Rows L2 Pz
local macro_rules | `(tactic| walk_at "w") => `(tactic| (try (simp only [wOp, wVar, wC, wB, wAsg, wRet, wDrop, gwName, gwSub, wIfS, wIf, wAndV, wOrV, wNotV, wNot, wAnd, wOr, wCB, wCons, wNil, wTup, wLst, wLstC, wCall, wPar, wAug, wAugS, wUn, wChain, wSl, wPart, wNoPart, wBM, wBM0, wIsi, wIsi2, fI0, fI, fLt, fLe, fGt, fGe, startD, List.map_cons, List.map_nil, List.length_cons, List.length_nil, List.replicate, List.cons_append, List.nil_append, Nat.reduceAdd, Nat.reduceSub, List.getElem?_cons_zero, List.getElem?_cons_succ, List.set_cons_zero, List.set_cons_succ, gwTup, gwCons, gwNil, true_and, wFor, wLc, wiL, wiR1, wiR2, wiS, wiT, wipeD, wFmt, wJoined, wJs, wTab, gwUnl])))
local macro_rules | `(tactic| walk_at "s") => `(tactic| (try (simp only [wOp, wVar, wC, wB, wAsg, wRet, wDrop, gwName, gwSub, wIfS, wIf, wAndV, wOrV, wNotV, wNot, wAnd, wOr, wCB, wCons, wNil, wTup, wLst, wLstC, wCall, wPar, wAug, wAugS, wUn, wChain, wSl, wPart, wNoPart, wBM, wBM0, wIsi, wIsi2, fI0, fI, fLt, fLe, fGt, fGe, startD, List.map_cons, List.map_nil, List.length_cons, List.length_nil, List.replicate, List.cons_append, List.nil_append, Nat.reduceAdd, Nat.reduceSub, List.getElem?_cons_zero, List.getElem?_cons_succ, List.set_cons_zero, List.set_cons_succ, gwTup, gwCons, gwNil, true_and, wFor, wLc, wiL, wiR1, wiR2, wiS, wiT, wipeD, wFmt, wJoined, wJs, wTab, gwUnl, fLenT, fLenLs, fEqS, fEqI, fNeS, fNeI, fIxLs, fIxTs, fSlT_1, atD_0, atD_1, atD_2, atD_3, atD_4, Int.cast_ofNat_Int, List.mem_cons, List.not_mem_nil, or_false, false_or, or_true, true_or, decide_true, decide_false, Bool.not_true, Bool.not_false, eq_self, seqOf, strsOf, Option.map_some, fInQ, Bool.false_eq_true, if_false, if_true, ne_num, ne_name, ne_yes, ne_no, ne_none, ne_choose, ne_let, ne_split, ne_give, ne_total, ne_size, ne_plus, ne_times, ne_below, ne_pair, ne_put, ne_join, ne_call, ne_row, ne_fun, ne_truth])))
local macro_rules | `(tactic| walk_at "g") => `(tactic| (repeat (first | (with_reducible refine s_seq ?_) | (with_reducible refine s_next ?_) | (with_reducible refine And.intro (by decide) ?_) | (simp only [wOp, wVar, wC, wB, wAsg, wRet, wDrop, gwName, gwSub, wIfS, wIf, wAndV, wOrV, wNotV, wNot, wAnd, wOr, wCB, wCons, wNil, wTup, wLst, wLstC, wCall, wPar, wAug, wAugS, wUn, wChain, wSl, wPart, wNoPart, wBM, wBM0, wIsi, wIsi2, fI0, fI, fLt, fLe, fGt, fGe, startD, List.map_cons, List.map_nil, List.length_cons, List.length_nil, List.replicate, List.cons_append, List.nil_append, Nat.reduceAdd, Nat.reduceSub, List.getElem?_cons_zero, List.getElem?_cons_succ, List.set_cons_zero, List.set_cons_succ, gwTup, gwCons, gwNil, true_and, wFor, wLc, wiL, wiR1, wiR2, wiS, wiT, wipeD, wFmt, wJoined, wJs, wTab, gwUnl, fLenT, fLenLs, fEqS, fEqI, fNeS, fNeI, fIxLs, fIxTs, fSlT_1, atD_0, atD_1, atD_2, atD_3, atD_4, Int.cast_ofNat_Int, List.mem_cons, List.not_mem_nil, or_false, false_or, or_true, true_or, decide_true, decide_false, Bool.not_true, Bool.not_false, eq_self, seqOf, strsOf, Option.map_some, fInQ, Bool.false_eq_true, if_false, if_true, ne_num, ne_name, ne_yes, ne_no, ne_none, ne_choose, ne_let, ne_split, ne_give, ne_total, ne_size, ne_plus, ne_times, ne_below, ne_pair, ne_put, ne_join, ne_call, ne_row, ne_fun, ne_truth]))))
local macro_rules | `(tactic| walk_at "o") => `(tactic| (repeat (refine And.intro (by omega) ?_)))
local macro_rules | `(tactic| walk_at "a") => `(tactic| (repeat (refine fAddS_to (by first | omega | (simp only [len_app]; omega)) ?_)))
section
variable {P : Program} {w : World} {K : PySem.W.Frag} {mg : Str → Option Value} {base : Heap} {f : Addr} {fd : FuncData}
structure NsOk (ns : List Str) : Prop where
  len : ns.length ≤ 26
  small : ∀ x ∈ ns, x.length ≤ 8
  two : ∀ z, ∃ x ∈ ns, x ≠ z
def Zb (r : Nat) : Nat := 514 * 3 ^ r
theorem Zb_succ (r : Nat) : Zb (r + 1) = 3 * Zb r := by unfold Zb; rw [Nat.pow_succ]; omega
theorem Zb_ge (r : Nat) : 514 ≤ Zb r := by unfold Zb; have : 0 < 3 ^ r := Nat.pos_of_ne_zero (by simp); omega
def ScS (sc : List (Str × So)) : Prop := ∀ p ∈ sc, p.1.length ≤ 8 ∧ p.2.dp ≤ 3
theorem ScS.add {sc : List (Str × So)} (h : ScS sc) {x : Str} {s : So} (hx : x.length ≤ 8) (hs : s.dp ≤ 3) : ScS (sc ++ [(x, s)]) := by
  intro p hp
  rcases List.mem_append.mp hp with hp | hp
  · exact h p hp
  · rw [List.mem_singleton.mp hp]; exact ⟨hx, hs⟩
theorem cat_ent {sc : List (Str × So)} {x : Str} {s : So} {S : Store} {Q : PQ} (hl : sc.length ≤ 100) (q : Q (.lst ((sc ++ [(x, s)]).map ent)) S) : fCat (.lst (sc.map ent)) (.lst [.tup [.str x, s.toD]]) S Q := by
  have h100 := sizeLine_big
  simp only [fCat, lstX]
  refine ⟨by simp; omega, ?_⟩
  rw [List.map_append] at q
  exact q
def pWo (r : Nat) : PSpec := fun ds S Q => ∃ (b : Addr) (ns : List Str) (sc : List (Str × So)) (s : So), ds = [.cel b, .lst (ns.map .str), .lst (sc.map ent), s.toD, .int (r : Int)] ∧ Box S b ∧ NsOk ns ∧ sc.length + 2 * r ≤ 40 ∧ ScS sc ∧ s.dp ≤ 3 ∧
  ∀ (w : Wd) S', w.good → w.dp ≤ 6 + 2 * r → w.sz + 2 ≤ Zb r → Box S' b → SB b S S' → Q w.toD S'
def pNa (r : Nat) : PSpec := fun ds S Q => ∃ (b : Addr) (ns : List Str) (sc : List (Str × So)) (s : So), ds = [.cel b, .lst (ns.map .str), .lst (sc.map ent), s.toD, .int (r : Int)] ∧ Box S b ∧ NsOk ns ∧ sc.length + 2 * r + 2 ≤ 40 ∧ ScS sc ∧ s.dp ≤ 3 ∧
  ∀ (w : Wd) S', w.good → w.dp ≤ 8 + 2 * r → w.sz ≤ 2 * Zb r → Box S' b → SB b S S' → Q w.toD S'
theorem scNa : FnScope ["_law_box_here", "_law_names_here", "_law_scope", "_law_sort", "_law_room", "_law_name", "_law_held", "_law_inner_here", "_law_way", "_law_other", "_law_one", "_law_second", "_law_pair", "_law_fun", "_law_given", "_law_bare", "_law_row"] ["_law_box_here", "_law_names_here", "_law_scope", "_law_sort", "_law_room"] (defScope (top 12)) := ⟨rfl, rfl, rfl, by decide +kernel, rfl, by decide +kernel, by decide +kernel⟩
theorem ok_na {r : Nat} (Fn : FnP K "_law_naming" (top 12) f fd) (T : Txt mg) (Ct : Callee P w K mg base 1 "_law_take" ["_law_box_here", "_law_many"] pTake) (Cds : Callee P w K mg base 3 "_law_data_sort" ["_law_box_here", "_law_deep"] (pDS 2))
    (Cwo : Callee P w K mg base (6 + 2 * r) "_law_word" ["_law_box_here", "_law_names_here", "_law_scope", "_law_sort", "_law_room"] (pWo r)) : FnOk P w K mg base CX0 (7 + 2 * r) f fd ["_law_box_here", "_law_names_here", "_law_scope", "_law_sort", "_law_room"] (spP K (pNa r)) := by
  have sc := scNa
  rw [show 7 + 2 * r = (6 + 2 * r) + 1 by omega]
  refine fn_pureD Fn scNa (fun ds S Q h => by obtain ⟨b, ns, sco, s, rfl, _⟩ := h; rfl) fun cdv A outer s H E hr => ⟨_, (dss_cons (ds_set (i := 5) sc.nd (de_ixL (de_v 1) (de_f Ct (hr.mono (by first | exact Nat.le_refl _ | decide | omega)) (da_cons (de_v 0) (da_cons (de_lenL T.len (de_v 1)) da_nil)))))
      (dss_cons (ds_set (i := 6) sc.nd (de_f Cds (hr.mono (by first | exact Nat.le_refl _ | decide | omega)) (da_cons (de_v 0) (da_cons de_int da_nil))))
      (dss_cons (ds_set (i := 7) sc.nd (de_addL (de_v 2) (de_lst (da_cons (de_tup (da_cons (de_v 5) (da_cons (de_v 6) da_nil))) da_nil))))
      (dss_cons (ds_set (i := 8) sc.nd (de_f Ct (hr.mono (by first | exact Nat.le_refl _ | decide | omega)) (da_cons (de_v 0) (da_cons de_int da_nil))))
      (dss_cons (ds_if (dt_eq (de_v 8) de_int)
      (dss_one (ds_ret (de_tup (da_cons de_str (da_cons (de_v 5) (da_cons (de_f Cwo (hr.mono (by first | exact Nat.le_refl _ | decide | omega)) (da_cons (de_v 0) (da_cons (de_v 1) (da_cons (de_v 2) (da_cons (de_v 6) (da_cons (de_v 4) da_nil)))))) (da_cons (de_f Cwo (hr.mono (by first | exact Nat.le_refl _ | decide | omega)) (da_cons (de_v 0) (da_cons (de_v 1) (da_cons (de_v 7) (da_cons (de_v 3) (da_cons (de_v 4) da_nil)))))) da_nil)))))))
      dss_nil)
      (dss_cons (ds_if (dt_eq (de_v 8) de_int)
      (dss_cons (ds_set (i := 9) sc.nd (de_ixL (de_lc (own := [("_law_one", 10)]) rfl sc.nd (di_list (de_v 1)) (blkOk_by (N := ["_law_box_here", "_law_names_here", "_law_scope", "_law_sort", "_law_room", "_law_name", "_law_held", "_law_inner_here", "_law_way", "_law_other", "_law_one", "_law_second", "_law_pair", "_law_fun", "_law_given", "_law_bare", "_law_row"]) (sc := defScope (top 12)) (by decide +kernel)) (fun _ _ _ _ _ => (dg_name (i := 10) sc.nd)) (fun _ _ _ _ _ => (dts_one (dt_ne (de_v 10) (de_v 5)))) (fun _ _ _ _ _ => (de_v 10))) de_int))
      (dss_cons (ds_set (i := 11) sc.nd (de_f Cds (hr.mono (by first | exact Nat.le_refl _ | decide | omega)) (da_cons (de_v 0) (da_cons de_int da_nil))))
      (dss_cons (ds_set (i := 12) sc.nd (de_f Cwo (hr.mono (by first | exact Nat.le_refl _ | decide | omega)) (da_cons (de_v 0) (da_cons (de_v 1) (da_cons (de_v 2) (da_cons (de_tup (da_cons de_str (da_cons (de_v 6) (da_cons (de_v 11) da_nil)))) (da_cons (de_v 4) da_nil)))))))
      (dss_cons (ds_set (i := 7) sc.nd (de_addL (de_v 7) (de_lst (da_cons (de_tup (da_cons (de_v 9) (da_cons (de_v 11) da_nil))) da_nil))))
      (dss_one (ds_ret (de_tup (da_cons de_str (da_cons (de_v 5) (da_cons (de_v 9) (da_cons (de_v 12) (da_cons (de_f Cwo (hr.mono (by first | exact Nat.le_refl _ | decide | omega)) (da_cons (de_v 0) (da_cons (de_v 1) (da_cons (de_v 7) (da_cons (de_v 3) (da_cons (de_v 4) da_nil)))))) da_nil))))))))))))
      dss_nil)
      (dss_cons (ds_set (i := 13) sc.nd (de_tup (da_cons de_str (da_cons (de_v 5) (da_cons (de_v 6) (da_cons (de_f Cwo (hr.mono (by first | exact Nat.le_refl _ | decide | omega)) (da_cons (de_v 0) (da_cons (de_v 1) (da_cons (de_v 7) (da_cons (de_v 3) (da_cons (de_v 4) da_nil)))))) da_nil))))))
      (dss_cons (ds_set (i := 14) sc.nd (de_f Cwo (hr.mono (by first | exact Nat.le_refl _ | decide | omega)) (da_cons (de_v 0) (da_cons (de_v 1) (da_cons (de_v 2) (da_cons (de_v 6) (da_cons (de_v 4) da_nil)))))))
      (dss_cons (ds_if (dt_eq (de_v 8) de_int)
      (dss_one (ds_ret (de_tup (da_cons de_str (da_cons (de_v 13) (da_cons (de_v 14) da_nil))))))
      dss_nil)
      (dss_cons (ds_setLc (i := 15) (own := [("_law_row", 16)]) rfl sc.nd (di_list (de_v 2)) (blkOk_by (N := ["_law_box_here", "_law_names_here", "_law_scope", "_law_sort", "_law_room", "_law_name", "_law_held", "_law_inner_here", "_law_way", "_law_other", "_law_one", "_law_second", "_law_pair", "_law_fun", "_law_given", "_law_bare", "_law_row"]) (sc := defScope (top 12)) (by decide +kernel)) (fun _ _ _ _ _ => (dg_name (i := 16) sc.nd)) (fun _ _ _ _ _ => (dts_one (dt_ne (de_ixT (de_v 16) de_int) (de_v 5)))) (fun _ _ _ _ _ => (de_v 16)) (sw_true rfl rfl rfl (by decide +kernel)))
      (dss_cons (ds_set (i := 14) sc.nd (de_f Cwo (hr.mono (by first | exact Nat.le_refl _ | decide | omega)) (da_cons (de_v 0) (da_cons (de_v 1) (da_cons (de_v 15) (da_cons (de_v 6) (da_cons (de_v 4) da_nil)))))))
      (dss_one (ds_ret (de_tup (da_cons de_str (da_cons (de_v 5) (da_cons (de_v 13) (da_cons (de_tup (da_cons de_str (da_cons (de_tup (da_cons de_str (da_cons (de_v 5) da_nil))) (da_cons (de_v 14) da_nil)))) da_nil)))))))))))))))))), ?_⟩
  rintro ds S Q ⟨b, ns, sco, s, rfl, hB, hns, hlen, hsc, hs, k⟩
  have h100 := sizeLine_big
  have hz := Zb_ge r
  have hn26 := hns.len
  have hpos : 0 < ns.length := by
    obtain ⟨x, hx, _⟩ := hns.two ""
    cases ns with
    | nil => cases hx
    | cons _ _ => simp
  refine s_seq ?_
  walk_at "s"
  refine ⟨b, _, rfl, hB, by simp; omega, by simp; omega, fun r1 S1 a0 a1 B1 sb1 => ?_⟩
  obtain ⟨x, ex, mx⟩ := atD_mem (xs := ns.map D.str) a0 a1
  refine fIxL_to (by rfl) ex ?_
  obtain ⟨z, hzm, rfl⟩ := List.mem_map.mp mx
  have hz8 := hns.small z hzm
  refine s_seq ?_
  walk_at "s"
  refine ⟨b, 2, rfl, B1, by decide, by decide, fun held S2 lh B2 sb2 => ?_⟩
  have lh3 : held.dp ≤ 3 := by omega
  refine s_seq ?_
  walk_at "g"
  refine cat_ent (by omega) ?_
  refine s_seq ?_
  walk_at "s"
  refine ⟨b, 4, rfl, B2, by decide, by decide, fun way S3 c0 c1 B3 sb3 => ?_⟩
  have sb03 := (sb1.trans sb2).trans sb3
  have hin : ScS (sco ++ [(z, held)]) := hsc.add hz8 lh3
  have hinl : (sco ++ [(z, held)]).length = sco.length + 1 := by simp
  refine s_seq ?_
  walk_at "s"
  by_cases h0 : way = 0
  · simp only [h0, decide_true]
    walk_at "s"
    refine ⟨b, ns, sco, held, rfl, B3, hns, by omega, hsc, lh3, fun w1 S4 g1 d1 z1 B4 sb4 => ?_⟩
    refine ⟨b, ns, _, s, rfl, B4, hns, by omega, hin, hs, fun w2 S5 g2 d2 z2 B5 sb5 => ?_⟩
    exact ⟨by decide, Fin.here (k (.lt z w1 w2) S5 ⟨hz8, g1, g2⟩ (by simp only [Wd.dp]; omega) (by simp only [Wd.sz]; omega) B5 ((sb03.trans sb4).trans sb5))⟩
  simp only [h0, decide_false]
  walk_at "g"
  by_cases h1 : way = 1
  · simp only [h1, decide_true]
    walk_at "g"
    refine lc_fm (ys := ns) (mk := D.str) (fun y => if y = z then none else some (.str y)) (by omega) (fun y hy R N hR hN => ?_) ?_
    · walk_at "s"
      by_cases he : y = z
      · simp only [he, decide_true, Bool.not_true]
        exact hN (by rw [if_pos he])
      · simp only [he, decide_false, Bool.not_false]
        exact hR _ (by rw [if_neg he])
    obtain ⟨os, hos⟩ : ∃ os, os = ns.filterMap (fun y => if y = z then none else some y) := ⟨_, rfl⟩
    have e1 : ns.filterMap (fun y => if y = z then none else some (D.str y)) = os.map D.str := by
      rw [hos, List.map_filterMap]
      congr 1
      funext p
      split <;> rfl
    rw [e1]
    have hosm : ∀ y ∈ os, y ∈ ns := by
      intro y hy
      rw [hos, List.mem_filterMap] at hy
      obtain ⟨p, hp, e⟩ := hy
      split at e
      · cases e
      · cases e; exact hp
    obtain ⟨y0, hy0, hne⟩ := hns.two z
    have hm0 : y0 ∈ os := by rw [hos, List.mem_filterMap]; exact ⟨y0, hy0, by rw [if_neg hne]⟩
    obtain ⟨ot, rest, hot⟩ : ∃ ot rest, os = ot :: rest := by
      cases os with
      | nil => cases hm0
      | cons o r => exact ⟨o, r, rfl⟩
    have ho8 : ot.length ≤ 8 := hns.small ot (hosm ot (by rw [hot]; simp))
    rw [hot]
    walk_at "g"
    refine ⟨b, 2, rfl, B3, by decide, by decide, fun sec S4 ls B4 sb4 => ?_⟩
    walk_at "g"
    refine ⟨b, ns, sco, .pair held sec, rfl, B4, hns, by omega, hsc, by simp only [So.dp]; omega, fun w1 S5 g1 d1 z1 B5 sb5 => ?_⟩
    walk_at "g"
    refine cat_ent (by simp; omega) ?_
    walk_at "g"
    refine ⟨b, ns, _, s, rfl, B5, hns, by simp; omega, hin.add ho8 (by omega), hs, fun w2 S6 g2 d2 z2 B6 sb6 => ?_⟩
    exact ⟨by decide, Fin.here (k (.split z ot w1 w2) S6 ⟨hz8, ho8, g1, g2⟩ (by simp only [Wd.dp]; omega) (by simp only [Wd.sz]; omega) B6 (((sb03.trans sb4).trans sb5).trans sb6))⟩
  simp only [h1, decide_false]
  walk_at "g"
  refine ⟨b, ns, _, s, rfl, B3, hns, by omega, hin, hs, fun w1 S4 g1 d1 z1 B4 sb4 => ?_⟩
  walk_at "g"
  refine ⟨b, ns, sco, held, rfl, B4, hns, by omega, hsc, lh3, fun w2 S5 g2 d2 z2 B5 sb5 => ?_⟩
  walk_at "g"
  by_cases h2 : way = 2
  · simp only [h2, decide_true]
    walk_at "g"
    exact Fin.here (k (.bin .call (.give z held w1) w2) S5 ⟨⟨hz8, by omega, g1⟩, g2⟩ (by simp only [Wd.dp]; omega) (by simp only [Wd.sz]; omega) B5 ((sb03.trans sb4).trans sb5))
  simp only [h2, decide_false]
  walk_at "g"
  refine lc_fm (ys := sco) (mk := ent) (fun p => if p.1 = z then none else some (ent p)) (by omega) (fun p hp R N hR hN => ?_) ?_
  · simp only [ent]
    walk_at "s"
    by_cases he : p.1 = z
    · simp only [he, decide_true, Bool.not_true]
      exact hN (by rw [if_pos he])
    · simp only [he, decide_false, Bool.not_false]
      exact hR _ (by rw [if_neg he]; rfl)
  have e2 : sco.filterMap (fun p => if p.1 = z then none else some (ent p)) = (sco.filterMap (fun p => if p.1 = z then none else some p)).map ent := by
    rw [List.map_filterMap]
    congr 1
    funext p
    split <;> rfl
  rw [e2]
  have hl2 := List.length_filterMap_le (fun p => if p.1 = z then none else some p) sco
  have hs2 : ScS (sco.filterMap (fun p => if p.1 = z then none else some p)) := by
    intro p hp
    obtain ⟨q, hq, e⟩ := List.mem_filterMap.mp hp
    split at e
    · cases e
    · cases e; exact hsc p hq
  walk_at "g"
  refine ⟨b, ns, _, held, rfl, B5, hns, by omega, hs2, lh3, fun w3 S6 g3 d3 z3 B6 sb6 => ?_⟩
  walk_at "g"
  exact Fin.here (k (.lt z (.give z held w1) (.bin .call (.name z) w3)) S6 ⟨hz8, ⟨hz8, by omega, g1⟩, hz8, g3⟩ (by simp only [Wd.dp]; omega) (by simp only [Wd.sz]; omega) B6 (((sb03.trans sb4).trans sb5).trans sb6))
theorem scWo : FnScope ["_law_box_here", "_law_names_here", "_law_scope", "_law_sort", "_law_room", "_law_way", "_law_parts", "_law_one", "_law_word_here", "_law_held", "_law_k", "_law_first"] ["_law_box_here", "_law_names_here", "_law_scope", "_law_sort", "_law_room"] (defScope (top 13)) := ⟨rfl, rfl, rfl, by decide +kernel, rfl, by decide +kernel, by decide +kernel⟩
theorem ok_wo (Fn : FnP K "_law_word" (top 13) f fd) (T : Txt mg) (hm : mg "_law_word" = some (.ref f)) (hb : Binds K fd ["_law_box_here", "_law_names_here", "_law_scope", "_law_sort", "_law_room"] []) (Ct : Callee P w K mg base 1 "_law_take" ["_law_box_here", "_law_many"] pTake) (Cds : Callee P w K mg base 3 "_law_data_sort" ["_law_box_here", "_law_deep"] (pDS 2))
    (Cle : Callee P w K mg base 5 "_law_leaf" ["_law_box_here", "_law_scope", "_law_sort"] pLe) {g : Addr} {gd : FuncData} (Gn : FnP K "_law_naming" (top 12) g gd) (gm : mg "_law_naming" = some (.ref g)) (gb : Binds K gd ["_law_box_here", "_law_names_here", "_law_scope", "_law_sort", "_law_room"] []) (r : Nat) : FnOk P w K mg base CX0 (6 + 2 * r) f fd ["_law_box_here", "_law_names_here", "_law_scope", "_law_sort", "_law_room"] (spP K (pWo r)) := by
  have sc := scWo
  cases r with
  | zero =>
    have Cna : Callee P w K mg base 0 "_law_naming" ["_law_box_here", "_law_names_here", "_law_scope", "_law_sort", "_law_room"] (fun _ _ _ => False) := ⟨_, _, ⟨fun vs H Q E h => by obtain ⟨_, _, _, _, _, _, h, _⟩ := h; exact h.elim, fun A outer s H args us vs Q E _ _ _ _ h => by obtain ⟨_, _, _, _, _, _, h, _⟩ := h; exact h.elim⟩, gm, Gn.kp, gb⟩
    have Cwo : Callee P w K mg base 0 "_law_word" ["_law_box_here", "_law_names_here", "_law_scope", "_law_sort", "_law_room"] (fun _ _ _ => False) := ⟨_, _, ⟨fun vs H Q E h => by obtain ⟨_, _, _, _, _, _, h, _⟩ := h; exact h.elim, fun A outer s H args us vs Q E _ _ _ _ h => by obtain ⟨_, _, _, _, _, _, h, _⟩ := h; exact h.elim⟩, hm, Fn.kp, hb⟩
    show FnOk P w K mg base CX0 (5 + 1) f fd _ _
    refine fn_pureD Fn scWo (fun ds S Q h => by obtain ⟨b, ns, sco, s, rfl, _⟩ := h; rfl) fun cdv A outer s H E hr => ⟨_, (dss_cons (ds_set (i := 5) sc.nd (de_f Ct (hr.mono (by first | exact Nat.le_refl _ | decide | omega)) (da_cons (de_v 0) (da_cons de_int da_nil))))
      (dss_cons (ds_if (DW.dt (dw_or (dt_lt (de_v 4) de_int) (dw_or1 (dt_eq (de_v 5) de_int))))
      (dss_one (ds_ret (de_f Cle (hr.mono (by first | exact Nat.le_refl _ | decide | omega)) (da_cons (de_v 0) (da_cons (de_v 2) (da_cons (de_v 3) da_nil))))))
      dss_nil)
      (dss_cons (ds_if (dt_lt (de_v 5) de_int)
      (dss_one (ds_ret (de_f Cna (hr.mono (by first | exact Nat.le_refl _ | decide | omega)) (da_cons (de_v 0) (da_cons (de_v 1) (da_cons (de_v 2) (da_cons (de_v 3) (da_cons (de_sub (de_v 4) de_int) da_nil))))))))
      dss_nil)
      (dss_cons (ds_if (dt_eq (de_v 5) de_int)
      (dss_cons (ds_setLc (i := 6) (own := [("_law_one", 7)]) rfl sc.nd (di_list (de_lst (da_cons (de_tup (da_cons de_str da_nil)) (da_cons (de_v 3) (da_cons (de_v 3) da_nil))))) (blkOk_by (N := ["_law_box_here", "_law_names_here", "_law_scope", "_law_sort", "_law_room", "_law_way", "_law_parts", "_law_one", "_law_word_here", "_law_held", "_law_k", "_law_first"]) (sc := defScope (top 13)) (by decide +kernel)) (fun _ _ _ _ _ => (dg_name (i := 7) sc.nd)) (fun _ _ _ _ _ => dts_nil) (fun _ _ _ _ _ => (de_f Cwo (hr.mono (by first | exact Nat.le_refl _ | decide | omega)) (da_cons (de_v 0) (da_cons (de_v 1) (da_cons (de_v 2) (da_cons (de_v 7) (da_cons (de_sub (de_v 4) de_int) da_nil))))))) (sw_true rfl rfl rfl (by decide +kernel)))
      (dss_one (ds_ret (de_tup (da_cons de_str (da_cons (de_ixL (de_v 6) de_int) (da_cons (de_ixL (de_v 6) de_int) (da_cons (de_ixL (de_v 6) de_int) da_nil))))))))
      dss_nil)
      (dss_cons (ds_if (dt_eqD (hu_of hr) (de_v 3) (de_tup (da_cons de_str da_nil)))
      (dss_cons (ds_if (dt_lt (de_v 5) de_int)
      (dss_cons (ds_set (i := 8) sc.nd (de_ixL (de_lst (da_cons de_str (da_cons de_str da_nil))) (de_f Ct (hr.mono (by first | exact Nat.le_refl _ | decide | omega)) (da_cons (de_v 0) (da_cons de_int da_nil)))))
      (dss_cons (ds_set (i := 9) sc.nd (de_if (dt_eq (de_v 8) de_str) (de_tup (da_cons de_str da_nil)) (de_f Cds (hr.mono (by first | exact Nat.le_refl _ | decide | omega)) (da_cons (de_v 0) (da_cons de_int da_nil)))))
      (dss_one (ds_ret (de_tup (da_cons (de_v 8) (da_cons (de_f Cwo (hr.mono (by first | exact Nat.le_refl _ | decide | omega)) (da_cons (de_v 0) (da_cons (de_v 1) (da_cons (de_v 2) (da_cons (de_tup (da_cons de_str (da_cons (de_v 9) da_nil))) (da_cons (de_sub (de_v 4) de_int) da_nil)))))) da_nil)))))))
      dss_nil)
      (dss_cons (ds_setLc (i := 6) (own := [("_law_k", 10)]) rfl sc.nd (di_range1 T.range de_int) (blkOk_by (N := ["_law_box_here", "_law_names_here", "_law_scope", "_law_sort", "_law_room", "_law_way", "_law_parts", "_law_one", "_law_word_here", "_law_held", "_law_k", "_law_first"]) (sc := defScope (top 13)) (by decide +kernel)) (fun _ _ _ _ _ => (dg_name (i := 10) sc.nd)) (fun _ _ _ _ _ => dts_nil) (fun _ _ _ _ _ => (de_f Cwo (hr.mono (by first | exact Nat.le_refl _ | decide | omega)) (da_cons (de_v 0) (da_cons (de_v 1) (da_cons (de_v 2) (da_cons (de_v 3) (da_cons (de_sub (de_v 4) de_int) da_nil))))))) (sw_true rfl rfl rfl (by decide +kernel)))
      (dss_one (ds_ret (de_tup (da_cons (de_ixL (de_lst (da_cons de_str (da_cons de_str (da_cons de_str da_nil)))) (de_f Ct (hr.mono (by first | exact Nat.le_refl _ | decide | omega)) (da_cons (de_v 0) (da_cons de_int da_nil)))) (da_cons (de_ixL (de_v 6) de_int) (da_cons (de_ixL (de_v 6) de_int) da_nil))))))))
      dss_nil)
      (dss_cons (ds_if (dt_eqD (hu_of hr) (de_v 3) (de_tup (da_cons de_str da_nil)))
      (dss_cons (ds_setLc (i := 6) (own := [("_law_k", 10)]) rfl sc.nd (di_range1 T.range de_int) (blkOk_by (N := ["_law_box_here", "_law_names_here", "_law_scope", "_law_sort", "_law_room", "_law_way", "_law_parts", "_law_one", "_law_word_here", "_law_held", "_law_k", "_law_first"]) (sc := defScope (top 13)) (by decide +kernel)) (fun _ _ _ _ _ => (dg_name (i := 10) sc.nd)) (fun _ _ _ _ _ => dts_nil) (fun _ _ _ _ _ => (de_f Cwo (hr.mono (by first | exact Nat.le_refl _ | decide | omega)) (da_cons (de_v 0) (da_cons (de_v 1) (da_cons (de_v 2) (da_cons (de_tup (da_cons de_str da_nil)) (da_cons (de_sub (de_v 4) de_int) da_nil))))))) (sw_true rfl rfl rfl (by decide +kernel)))
      (dss_one (ds_ret (de_tup (da_cons de_str (da_cons (de_ixL (de_v 6) de_int) (da_cons (de_ixL (de_v 6) de_int) da_nil)))))))
      dss_nil)
      (dss_cons (ds_if (dt_eq (de_ixT (de_v 3) de_int) de_str)
      (dss_cons (ds_set (i := 11) sc.nd (de_f Cwo (hr.mono (by first | exact Nat.le_refl _ | decide | omega)) (da_cons (de_v 0) (da_cons (de_v 1) (da_cons (de_v 2) (da_cons (de_ixT (de_v 3) de_int) (da_cons (de_sub (de_v 4) de_int) da_nil)))))))
      (dss_one (ds_ret (de_tup (da_cons de_str (da_cons (de_v 11) (da_cons (de_f Cwo (hr.mono (by first | exact Nat.le_refl _ | decide | omega)) (da_cons (de_v 0) (da_cons (de_v 1) (da_cons (de_v 2) (da_cons (de_ixT (de_v 3) de_int) (da_cons (de_sub (de_v 4) de_int) da_nil)))))) da_nil)))))))
      dss_nil)
      (dss_cons (ds_if (dt_lt (de_v 5) de_int)
      (dss_cons (ds_set (i := 11) sc.nd (de_f Cwo (hr.mono (by first | exact Nat.le_refl _ | decide | omega)) (da_cons (de_v 0) (da_cons (de_v 1) (da_cons (de_v 2) (da_cons (de_v 3) (da_cons (de_sub (de_v 4) de_int) da_nil)))))))
      (dss_one (ds_ret (de_tup (da_cons de_str (da_cons (de_v 11) (da_cons (de_f Cwo (hr.mono (by first | exact Nat.le_refl _ | decide | omega)) (da_cons (de_v 0) (da_cons (de_v 1) (da_cons (de_v 2) (da_cons (de_v 3) (da_cons (de_sub (de_v 4) de_int) da_nil)))))) da_nil)))))))
      dss_nil)
      (dss_cons (ds_set (i := 11) sc.nd (de_f Cwo (hr.mono (by first | exact Nat.le_refl _ | decide | omega)) (da_cons (de_v 0) (da_cons (de_v 1) (da_cons (de_v 2) (da_cons (de_ixT (de_v 3) de_int) (da_cons (de_sub (de_v 4) de_int) da_nil)))))))
      (dss_one (ds_ret (de_tup (da_cons de_str (da_cons (de_v 11) (da_cons (de_f Cwo (hr.mono (by first | exact Nat.le_refl _ | decide | omega)) (da_cons (de_v 0) (da_cons (de_v 1) (da_cons (de_v 2) (da_cons (de_v 3) (da_cons (de_sub (de_v 4) de_int) da_nil)))))) da_nil))))))))))))))), ?_⟩
    rintro ds S Q ⟨b, ns, sco, s, rfl, hB, hns, hlen, hsc, hs, k⟩
    refine s_seq ?_
    walk_at "s"
    refine ⟨b, 9, rfl, hB, by decide, by decide, fun way S1 a0 a1 B1 sb1 => ?_⟩
    refine s_seq ?_
    walk_at "s"
    exact ⟨b, sco, s, rfl, B1, ⟨by omega, hsc⟩, hs, fun w S2 g d z B2 sb2 => Fin.here (k w S2 g (by omega) (by show _ ≤ 514 * 1; omega) B2 (sb1.trans sb2))⟩
  | succ r =>
    have ih := ok_wo Fn T hm hb Ct Cds Cle Gn gm gb r
    have Cwo : Callee P w K mg base (6 + 2 * r) "_law_word" ["_law_box_here", "_law_names_here", "_law_scope", "_law_sort", "_law_room"] (pWo r) := ⟨_, _, ih, hm, Fn.kp, hb⟩
    have Cna : Callee P w K mg base (7 + 2 * r) "_law_naming" ["_law_box_here", "_law_names_here", "_law_scope", "_law_sort", "_law_room"] (pNa r) := ⟨_, _, ok_na Gn T Ct Cds Cwo, gm, Gn.kp, gb⟩
    rw [show 6 + 2 * (r + 1) = (7 + 2 * r) + 1 by omega]
    refine fn_pureD Fn scWo (fun ds S Q h => by obtain ⟨b, ns, sco, s, rfl, _⟩ := h; rfl) fun cdv A outer s H E hr => ⟨_, (dss_cons (ds_set (i := 5) sc.nd (de_f Ct (hr.mono (by first | exact Nat.le_refl _ | decide | omega)) (da_cons (de_v 0) (da_cons de_int da_nil))))
      (dss_cons (ds_if (DW.dt (dw_or (dt_lt (de_v 4) de_int) (dw_or1 (dt_eq (de_v 5) de_int))))
      (dss_one (ds_ret (de_f Cle (hr.mono (by first | exact Nat.le_refl _ | decide | omega)) (da_cons (de_v 0) (da_cons (de_v 2) (da_cons (de_v 3) da_nil))))))
      dss_nil)
      (dss_cons (ds_if (dt_lt (de_v 5) de_int)
      (dss_one (ds_ret (de_f Cna (hr.mono (by first | exact Nat.le_refl _ | decide | omega)) (da_cons (de_v 0) (da_cons (de_v 1) (da_cons (de_v 2) (da_cons (de_v 3) (da_cons (de_sub (de_v 4) de_int) da_nil))))))))
      dss_nil)
      (dss_cons (ds_if (dt_eq (de_v 5) de_int)
      (dss_cons (ds_setLc (i := 6) (own := [("_law_one", 7)]) rfl sc.nd (di_list (de_lst (da_cons (de_tup (da_cons de_str da_nil)) (da_cons (de_v 3) (da_cons (de_v 3) da_nil))))) (blkOk_by (N := ["_law_box_here", "_law_names_here", "_law_scope", "_law_sort", "_law_room", "_law_way", "_law_parts", "_law_one", "_law_word_here", "_law_held", "_law_k", "_law_first"]) (sc := defScope (top 13)) (by decide +kernel)) (fun _ _ _ _ _ => (dg_name (i := 7) sc.nd)) (fun _ _ _ _ _ => dts_nil) (fun _ _ _ _ _ => (de_f Cwo (hr.mono (by first | exact Nat.le_refl _ | decide | omega)) (da_cons (de_v 0) (da_cons (de_v 1) (da_cons (de_v 2) (da_cons (de_v 7) (da_cons (de_sub (de_v 4) de_int) da_nil))))))) (sw_true rfl rfl rfl (by decide +kernel)))
      (dss_one (ds_ret (de_tup (da_cons de_str (da_cons (de_ixL (de_v 6) de_int) (da_cons (de_ixL (de_v 6) de_int) (da_cons (de_ixL (de_v 6) de_int) da_nil))))))))
      dss_nil)
      (dss_cons (ds_if (dt_eqD (hu_of hr) (de_v 3) (de_tup (da_cons de_str da_nil)))
      (dss_cons (ds_if (dt_lt (de_v 5) de_int)
      (dss_cons (ds_set (i := 8) sc.nd (de_ixL (de_lst (da_cons de_str (da_cons de_str da_nil))) (de_f Ct (hr.mono (by first | exact Nat.le_refl _ | decide | omega)) (da_cons (de_v 0) (da_cons de_int da_nil)))))
      (dss_cons (ds_set (i := 9) sc.nd (de_if (dt_eq (de_v 8) de_str) (de_tup (da_cons de_str da_nil)) (de_f Cds (hr.mono (by first | exact Nat.le_refl _ | decide | omega)) (da_cons (de_v 0) (da_cons de_int da_nil)))))
      (dss_one (ds_ret (de_tup (da_cons (de_v 8) (da_cons (de_f Cwo (hr.mono (by first | exact Nat.le_refl _ | decide | omega)) (da_cons (de_v 0) (da_cons (de_v 1) (da_cons (de_v 2) (da_cons (de_tup (da_cons de_str (da_cons (de_v 9) da_nil))) (da_cons (de_sub (de_v 4) de_int) da_nil)))))) da_nil)))))))
      dss_nil)
      (dss_cons (ds_setLc (i := 6) (own := [("_law_k", 10)]) rfl sc.nd (di_range1 T.range de_int) (blkOk_by (N := ["_law_box_here", "_law_names_here", "_law_scope", "_law_sort", "_law_room", "_law_way", "_law_parts", "_law_one", "_law_word_here", "_law_held", "_law_k", "_law_first"]) (sc := defScope (top 13)) (by decide +kernel)) (fun _ _ _ _ _ => (dg_name (i := 10) sc.nd)) (fun _ _ _ _ _ => dts_nil) (fun _ _ _ _ _ => (de_f Cwo (hr.mono (by first | exact Nat.le_refl _ | decide | omega)) (da_cons (de_v 0) (da_cons (de_v 1) (da_cons (de_v 2) (da_cons (de_v 3) (da_cons (de_sub (de_v 4) de_int) da_nil))))))) (sw_true rfl rfl rfl (by decide +kernel)))
      (dss_one (ds_ret (de_tup (da_cons (de_ixL (de_lst (da_cons de_str (da_cons de_str (da_cons de_str da_nil)))) (de_f Ct (hr.mono (by first | exact Nat.le_refl _ | decide | omega)) (da_cons (de_v 0) (da_cons de_int da_nil)))) (da_cons (de_ixL (de_v 6) de_int) (da_cons (de_ixL (de_v 6) de_int) da_nil))))))))
      dss_nil)
      (dss_cons (ds_if (dt_eqD (hu_of hr) (de_v 3) (de_tup (da_cons de_str da_nil)))
      (dss_cons (ds_setLc (i := 6) (own := [("_law_k", 10)]) rfl sc.nd (di_range1 T.range de_int) (blkOk_by (N := ["_law_box_here", "_law_names_here", "_law_scope", "_law_sort", "_law_room", "_law_way", "_law_parts", "_law_one", "_law_word_here", "_law_held", "_law_k", "_law_first"]) (sc := defScope (top 13)) (by decide +kernel)) (fun _ _ _ _ _ => (dg_name (i := 10) sc.nd)) (fun _ _ _ _ _ => dts_nil) (fun _ _ _ _ _ => (de_f Cwo (hr.mono (by first | exact Nat.le_refl _ | decide | omega)) (da_cons (de_v 0) (da_cons (de_v 1) (da_cons (de_v 2) (da_cons (de_tup (da_cons de_str da_nil)) (da_cons (de_sub (de_v 4) de_int) da_nil))))))) (sw_true rfl rfl rfl (by decide +kernel)))
      (dss_one (ds_ret (de_tup (da_cons de_str (da_cons (de_ixL (de_v 6) de_int) (da_cons (de_ixL (de_v 6) de_int) da_nil)))))))
      dss_nil)
      (dss_cons (ds_if (dt_eq (de_ixT (de_v 3) de_int) de_str)
      (dss_cons (ds_set (i := 11) sc.nd (de_f Cwo (hr.mono (by first | exact Nat.le_refl _ | decide | omega)) (da_cons (de_v 0) (da_cons (de_v 1) (da_cons (de_v 2) (da_cons (de_ixT (de_v 3) de_int) (da_cons (de_sub (de_v 4) de_int) da_nil)))))))
      (dss_one (ds_ret (de_tup (da_cons de_str (da_cons (de_v 11) (da_cons (de_f Cwo (hr.mono (by first | exact Nat.le_refl _ | decide | omega)) (da_cons (de_v 0) (da_cons (de_v 1) (da_cons (de_v 2) (da_cons (de_ixT (de_v 3) de_int) (da_cons (de_sub (de_v 4) de_int) da_nil)))))) da_nil)))))))
      dss_nil)
      (dss_cons (ds_if (dt_lt (de_v 5) de_int)
      (dss_cons (ds_set (i := 11) sc.nd (de_f Cwo (hr.mono (by first | exact Nat.le_refl _ | decide | omega)) (da_cons (de_v 0) (da_cons (de_v 1) (da_cons (de_v 2) (da_cons (de_v 3) (da_cons (de_sub (de_v 4) de_int) da_nil)))))))
      (dss_one (ds_ret (de_tup (da_cons de_str (da_cons (de_v 11) (da_cons (de_f Cwo (hr.mono (by first | exact Nat.le_refl _ | decide | omega)) (da_cons (de_v 0) (da_cons (de_v 1) (da_cons (de_v 2) (da_cons (de_v 3) (da_cons (de_sub (de_v 4) de_int) da_nil)))))) da_nil)))))))
      dss_nil)
      (dss_cons (ds_set (i := 11) sc.nd (de_f Cwo (hr.mono (by first | exact Nat.le_refl _ | decide | omega)) (da_cons (de_v 0) (da_cons (de_v 1) (da_cons (de_v 2) (da_cons (de_ixT (de_v 3) de_int) (da_cons (de_sub (de_v 4) de_int) da_nil)))))))
      (dss_one (ds_ret (de_tup (da_cons de_str (da_cons (de_v 11) (da_cons (de_f Cwo (hr.mono (by first | exact Nat.le_refl _ | decide | omega)) (da_cons (de_v 0) (da_cons (de_v 1) (da_cons (de_v 2) (da_cons (de_v 3) (da_cons (de_sub (de_v 4) de_int) da_nil)))))) da_nil))))))))))))))), ?_⟩
    rintro ds S Q ⟨b, ns, sco, s, rfl, hB, hns, hlen, hsc, hs, k⟩
    have hz := Zb_ge r
    have hz1 := Zb_succ r
    have h100 := sizeLine_big
    have er : (((r + 1 : Nat) : Int)) - 1 = (r : Int) := by omega
    have word : ∀ (t : So) (S1 : Store) (R : PQ), Box S1 b → t.dp ≤ 3 → (∀ (w : Wd) S', w.good → w.dp ≤ 6 + 2 * r → w.sz + 2 ≤ Zb r → Box S' b → SB b S1 S' → R w.toD S') → pWo r [.cel b, .lst (ns.map .str), .lst (sco.map ent), t.toD, .int (((r + 1 : Nat) : Int) - 1)] S1 R := by
      intro t S1 R B1 ht hR
      rw [er]
      exact ⟨b, ns, sco, t, rfl, B1, hns, by omega, hsc, ht, hR⟩
    refine s_seq ?_
    walk_at "s"
    refine ⟨b, 9, rfl, hB, by decide, by decide, fun way S1 a0 a1 B1 sb1 => ?_⟩
    have h1 : ¬ (((r + 1 : Nat) : Int)) < 1 := by omega
    refine s_seq ?_
    walk_at "s"
    simp only [h1, decide_false]
    walk_at "s"
    by_cases h0 : way = 0
    · simp only [h0, decide_true]
      walk_at "s"
      exact ⟨b, sco, s, rfl, B1, ⟨by omega, hsc⟩, hs, fun w S2 g d z B2 sb2 => Fin.here (k w S2 g (by omega) (by omega) B2 (sb1.trans sb2))⟩
    simp only [h0, decide_false]
    walk_at "g"
    by_cases h3 : way < 3
    · simp only [h3, decide_true]
      walk_at "g"
      rw [er]
      exact ⟨b, ns, sco, s, rfl, B1, hns, by omega, hsc, hs, fun w S2 g d z B2 sb2 => Fin.here (k w S2 g (by omega) (by omega) B2 (sb1.trans sb2))⟩
    simp only [h3, decide_false]
    walk_at "g"
    by_cases h4 : way = 3
    · simp only [h4, decide_true]
      walk_at "g"
      refine lc_run (ys := [So.truth, s, s]) (mk := So.toD) (J := fun i acc S' => Box S' b ∧ SB b S1 S' ∧ ∃ ws : List Wd, acc = ws.map Wd.toD ∧ ∀ w ∈ ws, w.good ∧ w.dp ≤ 6 + 2 * r ∧ w.sz + 2 ≤ Zb r) (by show 3 ≤ _; omega) ⟨B1, SB.refl _ _, [], rfl, by simp⟩ ?_ ?_
      · rintro i y acc S' hy hacc ⟨B, sb, ws, rfl, hws⟩ R hR
        walk_at "s"
        have hy3 : y.dp ≤ 3 := by
          have := List.mem_of_getElem? hy
          simp only [List.mem_cons, List.not_mem_nil, or_false] at this
          rcases this with rfl | rfl | rfl
          · decide
          · exact hs
          · exact hs
        refine word y S' _ B hy3 fun w S2 g d z B2 sb2 => hR _ _ ⟨B2, sb.trans sb2, ws ++ [w], by simp, fun w' hw' => ?_⟩
        rcases List.mem_append.mp hw' with hw' | hw'
        · exact hws w' hw'
        · rw [List.mem_singleton.mp hw']; exact ⟨g, d, z⟩
      · rintro acc S2 hacc ⟨B2, sb2, ws, rfl, hws⟩
        obtain ⟨x, y, z, rfl⟩ : ∃ x y z, ws = [x, y, z] := by
          rw [List.length_map] at hacc
          match ws, hacc with
          | [x, y, z], _ => exact ⟨x, y, z, rfl⟩
        obtain ⟨gx, dx, zx⟩ := hws x (by simp)
        obtain ⟨gy, dy, zy⟩ := hws y (by simp)
        obtain ⟨gz, dz, zz⟩ := hws z (by simp)
        walk_at "g"
        exact Fin.here (k (.choose x y z) S2 ⟨gx, gy, gz⟩ (by simp only [Wd.dp]; omega) (by simp only [Wd.sz]; omega) B2 (sb1.trans sb2))
    simp only [h4, decide_false]
    walk_at "g"
    refine eqN ?_
    cases s with
    | num =>
      simp only [So.isNum]
      walk_at "g"
      by_cases h5 : way < 5
      · simp only [h5, decide_true]
        walk_at "g"
        refine ⟨b, 2, rfl, B1, by decide, by decide, fun r2 S2 q0 q1 B2 sb2 => ?_⟩
        have hq : r2 = 0 ∨ r2 = 1 := by omega
        rcases hq with rfl | rfl
        · walk_at "g"
          refine word (.row .num) S2 _ B2 (by decide) fun w S3 g d z B3 sb3 => ?_
          exact ⟨by decide, Fin.here (k (.un .total w) S3 g (by simp only [Wd.dp]; omega) (by simp only [Wd.sz]; omega) B3 ((sb1.trans sb2).trans sb3))⟩
        · walk_at "g"
          refine ⟨b, 2, rfl, B2, by decide, by decide, fun t S3 ht B3 sb3 => ?_⟩
          walk_at "g"
          refine word (.row t) S3 _ B3 (by simp only [So.dp]; omega) fun w S4 g d z B4 sb4 => ?_
          exact ⟨by decide, Fin.here (k (.un .size w) S4 g (by simp only [Wd.dp]; omega) (by simp only [Wd.sz]; omega) B4 (((sb1.trans sb2).trans sb3).trans sb4))⟩
      simp only [h5, decide_false]
      walk_at "g"
      rw [rangeD_eq]
      refine lc_run (J := fun i acc S' => Box S' b ∧ SB b S1 S' ∧ ∃ ws : List Wd, acc = ws.map Wd.toD ∧ ∀ w ∈ ws, w.good ∧ w.dp ≤ 6 + 2 * r ∧ w.sz + 2 ≤ Zb r) (by rw [List.length_range]; show 2 ≤ _; omega) ⟨B1, SB.refl _ _, [], rfl, by simp⟩ ?_ ?_
      · rintro i y acc S' hy hacc ⟨B, sb, ws, rfl, hws⟩ R hR
        walk_at "g"
        refine word .num S' _ B (by decide) fun w S2 g d z B2 sb2 => hR _ _ ⟨B2, sb.trans sb2, ws ++ [w], by simp, fun w' hw' => ?_⟩
        rcases List.mem_append.mp hw' with hw' | hw'
        · exact hws w' hw'
        · rw [List.mem_singleton.mp hw']; exact ⟨g, d, z⟩
      · rintro acc S2 hacc ⟨B2, sb2, ws, rfl, hws⟩
        obtain ⟨x, y, rfl⟩ : ∃ x y, ws = [x, y] := by
          rw [List.length_map, List.length_range] at hacc
          match ws, hacc with
          | [x, y], _ => exact ⟨x, y, rfl⟩
        obtain ⟨gx, dx, zx⟩ := hws x (by simp)
        obtain ⟨gy, dy, zy⟩ := hws y (by simp)
        walk_at "g"
        refine ⟨b, 3, rfl, B2, by decide, by decide, fun r3 S3 q0 q1 B3 sb3 => ?_⟩
        have hq : r3 = 0 ∨ r3 = 1 ∨ r3 = 2 := by omega
        rcases hq with rfl | rfl | rfl
        · walk_at "g"
          exact Fin.here (k (.bin .plus x y) S3 ⟨gx, gy⟩ (by simp only [Wd.dp]; omega) (by simp only [Wd.sz]; omega) B3 ((sb1.trans sb2).trans sb3))
        · walk_at "g"
          exact Fin.here (k (.bin .plus x y) S3 ⟨gx, gy⟩ (by simp only [Wd.dp]; omega) (by simp only [Wd.sz]; omega) B3 ((sb1.trans sb2).trans sb3))
        · walk_at "g"
          exact Fin.here (k (.bin .times x y) S3 ⟨gx, gy⟩ (by simp only [Wd.dp]; omega) (by simp only [Wd.sz]; omega) B3 ((sb1.trans sb2).trans sb3))
    | truth =>
      simp only [So.isNum]
      walk_at "g"
      refine eqT (s := .truth) ?_
      simp only [So.isTruth]
      walk_at "g"
      rw [rangeD_eq]
      refine lc_run (J := fun i acc S' => Box S' b ∧ SB b S1 S' ∧ ∃ ws : List Wd, acc = ws.map Wd.toD ∧ ∀ w ∈ ws, w.good ∧ w.dp ≤ 6 + 2 * r ∧ w.sz + 2 ≤ Zb r) (by rw [List.length_range]; show 2 ≤ _; omega) ⟨B1, SB.refl _ _, [], rfl, by simp⟩ ?_ ?_
      · rintro i y acc S' hy hacc ⟨B, sb, ws, rfl, hws⟩ R hR
        walk_at "g"
        refine word .num S' _ B (by decide) fun w S2 g d z B2 sb2 => hR _ _ ⟨B2, sb.trans sb2, ws ++ [w], by simp, fun w' hw' => ?_⟩
        rcases List.mem_append.mp hw' with hw' | hw'
        · exact hws w' hw'
        · rw [List.mem_singleton.mp hw']; exact ⟨g, d, z⟩
      · rintro acc S2 hacc ⟨B2, sb2, ws, rfl, hws⟩
        obtain ⟨x, y, rfl⟩ : ∃ x y, ws = [x, y] := by
          rw [List.length_map, List.length_range] at hacc
          match ws, hacc with
          | [x, y], _ => exact ⟨x, y, rfl⟩
        obtain ⟨gx, dx, zx⟩ := hws x (by simp)
        obtain ⟨gy, dy, zy⟩ := hws y (by simp)
        walk_at "g"
        exact Fin.here (k (.bin .below x y) S2 ⟨gx, gy⟩ (by simp only [Wd.dp]; omega) (by simp only [Wd.sz]; omega) B2 (sb1.trans sb2))
    | pair a c =>
      simp only [So.isNum]
      walk_at "g"
      refine eqT ?_
      simp only [So.isTruth, So.toD]
      walk_at "g"
      refine word a S1 _ B1 (by simp only [So.dp] at hs; omega) fun w1 S2 g1 d1 z1 B2 sb2 => ?_
      walk_at "g"
      refine word c S2 _ B2 (by simp only [So.dp] at hs; omega) fun w2 S3 g2 d2 z2 B3 sb3 => ?_
      exact ⟨by decide, Fin.here (k (.bin .pair w1 w2) S3 ⟨g1, g2⟩ (by simp only [Wd.dp]; omega) (by simp only [Wd.sz]; omega) B3 ((sb1.trans sb2).trans sb3))⟩
    | row a =>
      simp only [So.isNum]
      walk_at "g"
      refine eqT ?_
      simp only [So.isTruth, So.toD]
      walk_at "g"
      by_cases h6 : way < 6
      · simp only [h6, decide_true]
        walk_at "g"
        refine word (.row a) S1 _ B1 hs fun w1 S2 g1 d1 z1 B2 sb2 => ?_
        walk_at "g"
        refine word (.row a) S2 _ B2 hs fun w2 S3 g2 d2 z2 B3 sb3 => ?_
        exact ⟨by decide, Fin.here (k (.bin .join w1 w2) S3 ⟨g1, g2⟩ (by simp only [Wd.dp]; omega) (by simp only [Wd.sz]; omega) B3 ((sb1.trans sb2).trans sb3))⟩
      simp only [h6, decide_false]
      walk_at "g"
      refine word a S1 _ B1 (by simp only [So.dp] at hs; omega) fun w1 S2 g1 d1 z1 B2 sb2 => ?_
      walk_at "g"
      refine word (.row a) S2 _ B2 hs fun w2 S3 g2 d2 z2 B3 sb3 => ?_
      exact ⟨by decide, Fin.here (k (.bin .put w1 w2) S3 ⟨g1, g2⟩ (by simp only [Wd.dp]; omega) (by simp only [Wd.sz]; omega) B3 ((sb1.trans sb2).trans sb3))⟩
    | fn a c =>
      simp only [So.isNum]
      walk_at "g"
      refine eqT ?_
      simp only [So.isTruth, So.toD]
      walk_at "g"
      by_cases h6 : way < 6
      · simp only [h6, decide_true]
        walk_at "g"
        refine word (.fn a c) S1 _ B1 hs fun w1 S2 g1 d1 z1 B2 sb2 => ?_
        walk_at "g"
        refine word (.fn a c) S2 _ B2 hs fun w2 S3 g2 d2 z2 B3 sb3 => ?_
        exact ⟨by decide, Fin.here (k (.bin .join w1 w2) S3 ⟨g1, g2⟩ (by simp only [Wd.dp]; omega) (by simp only [Wd.sz]; omega) B3 ((sb1.trans sb2).trans sb3))⟩
      simp only [h6, decide_false]
      walk_at "g"
      refine word a S1 _ B1 (by simp only [So.dp] at hs; omega) fun w1 S2 g1 d1 z1 B2 sb2 => ?_
      walk_at "g"
      refine word (.fn a c) S2 _ B2 hs fun w2 S3 g2 d2 z2 B3 sb3 => ?_
      exact ⟨by decide, Fin.here (k (.bin .put w1 w2) S3 ⟨g1, g2⟩ (by simp only [Wd.dp]; omega) (by simp only [Wd.sz]; omega) B3 ((sb1.trans sb2).trans sb3))⟩
end
end K50

set_option Elab.async false
set_option linter.all false
set_option maxRecDepth 100000
set_option maxHeartbeats 4000000
namespace K50
open PySem PySem.Spec PyProof.Rows L2 Pz
local macro_rules | `(tactic| walk_at "w") => `(tactic| (try (simp only [wOp, wVar, wC, wB, wAsg, wRet, wDrop, gwName, gwSub, wIfS, wIf, wAndV, wOrV, wNotV, wNot, wAnd, wOr, wCB, wCons, wNil, wTup, wLst, wLstC, wCall, wPar, wAug, wAugS, wUn, wChain, wSl, wPart, wNoPart, wBM, wBM0, wIsi, wIsi2, fI0, fI, fLt, fLe, fGt, fGe, startD, List.map_cons, List.map_nil, List.length_cons, List.length_nil, List.replicate, List.cons_append, List.nil_append, Nat.reduceAdd, Nat.reduceSub, List.getElem?_cons_zero, List.getElem?_cons_succ, List.set_cons_zero, List.set_cons_succ, gwTup, gwCons, gwNil, true_and, wFor, wLc, wiL, wiR1, wiR2, wiS, wiT, wipeD, wFmt, wJoined, wJs, wTab, gwUnl])))
local macro_rules | `(tactic| walk_at "s") => `(tactic| (try (simp only [wOp, wVar, wC, wB, wAsg, wRet, wDrop, gwName, gwSub, wIfS, wIf, wAndV, wOrV, wNotV, wNot, wAnd, wOr, wCB, wCons, wNil, wTup, wLst, wLstC, wCall, wPar, wAug, wAugS, wUn, wChain, wSl, wPart, wNoPart, wBM, wBM0, wIsi, wIsi2, fI0, fI, fLt, fLe, fGt, fGe, startD, List.map_cons, List.map_nil, List.length_cons, List.length_nil, List.replicate, List.cons_append, List.nil_append, Nat.reduceAdd, Nat.reduceSub, List.getElem?_cons_zero, List.getElem?_cons_succ, List.set_cons_zero, List.set_cons_succ, gwTup, gwCons, gwNil, true_and, wFor, wLc, wiL, wiR1, wiR2, wiS, wiT, wipeD, wFmt, wJoined, wJs, wTab, gwUnl, fLenT, fLenLs, fEqS, fEqI, fNeS, fNeI, fIxLs, fIxTs, fSlT_1, atD_0, atD_1, atD_2, atD_3, atD_4, Int.cast_ofNat_Int, List.mem_cons, List.not_mem_nil, or_false, false_or, or_true, true_or, decide_true, decide_false, Bool.not_true, Bool.not_false, eq_self, seqOf, strsOf, Option.map_some, fInQ, Bool.false_eq_true, if_false, if_true, ne_num, ne_name, ne_yes, ne_no, ne_none, ne_choose, ne_let, ne_split, ne_give, ne_total, ne_size, ne_plus, ne_times, ne_below, ne_pair, ne_put, ne_join, ne_call, ne_row, ne_fun, ne_truth])))
local macro_rules | `(tactic| walk_at "g") => `(tactic| (repeat (first | (with_reducible refine s_seq ?_) | (with_reducible refine s_next ?_) | (with_reducible refine And.intro (by decide) ?_) | (simp only [wOp, wVar, wC, wB, wAsg, wRet, wDrop, gwName, gwSub, wIfS, wIf, wAndV, wOrV, wNotV, wNot, wAnd, wOr, wCB, wCons, wNil, wTup, wLst, wLstC, wCall, wPar, wAug, wAugS, wUn, wChain, wSl, wPart, wNoPart, wBM, wBM0, wIsi, wIsi2, fI0, fI, fLt, fLe, fGt, fGe, startD, List.map_cons, List.map_nil, List.length_cons, List.length_nil, List.replicate, List.cons_append, List.nil_append, Nat.reduceAdd, Nat.reduceSub, List.getElem?_cons_zero, List.getElem?_cons_succ, List.set_cons_zero, List.set_cons_succ, gwTup, gwCons, gwNil, true_and, wFor, wLc, wiL, wiR1, wiR2, wiS, wiT, wipeD, wFmt, wJoined, wJs, wTab, gwUnl, fLenT, fLenLs, fEqS, fEqI, fNeS, fNeI, fIxLs, fIxTs, fSlT_1, atD_0, atD_1, atD_2, atD_3, atD_4, Int.cast_ofNat_Int, List.mem_cons, List.not_mem_nil, or_false, false_or, or_true, true_or, decide_true, decide_false, Bool.not_true, Bool.not_false, eq_self, seqOf, strsOf, Option.map_some, fInQ, Bool.false_eq_true, if_false, if_true, ne_num, ne_name, ne_yes, ne_no, ne_none, ne_choose, ne_let, ne_split, ne_give, ne_total, ne_size, ne_plus, ne_times, ne_below, ne_pair, ne_put, ne_join, ne_call, ne_row, ne_fun, ne_truth]))))
local macro_rules | `(tactic| walk_at "o") => `(tactic| (repeat (refine And.intro (by omega) ?_)))
local macro_rules | `(tactic| walk_at "a") => `(tactic| (repeat (refine fAddS_to (by first | omega | (simp only [len_app]; omega)) ?_)))
section
variable {P : Program} {w : World} {K : PySem.W.Frag} {mg : Str → Option Value} {base : Heap} {f : Addr} {fd : FuncData}
def ln (p : Wd × Int) : D := .tup [p.1.toD, .int p.2]
def szs (l : List (Wd × Int)) : Nat := (l.map fun p => p.1.sz).sum
theorem szs_app (a b : List (Wd × Int)) : szs (a ++ b) = szs a + szs b := by unfold szs; rw [List.map_append, List.sum_append]
theorem szs_len : ∀ l : List (Wd × Int), l.length ≤ szs l
  | [] => Nat.le_refl _
  | p :: l => by
    have := szs_len l
    have := p.1.sz_pos
    show l.length + 1 ≤ p.1.sz + szs l
    omega
def pSi : PSpec := fun ds S Q => ∃ w : Wd, ds = [w.toD] ∧ w.sz ≤ 20000 ∧ ∀ m d : Int, Q (.tup [.int m, .int d]) S
theorem scSi : FnScope ["_law_word_here", "_law_line", "_law_at", "_law_part", "_law_one", "_law_deep"] ["_law_word_here"] (defScope (top 15)) := ⟨rfl, rfl, rfl, by decide +kernel, rfl, by decide +kernel, by decide +kernel⟩
theorem ok_si (Fn : FnP K "_law_size" (top 15) f fd) (T : Txt mg) (Cin : Callee P w K mg base 1 "_law_inner" ["_law_word_here"] pIn) : FnOk P w K mg base CX0 2 f fd ["_law_word_here"] (spP K pSi) := by
  have sc := scSi
  refine fn_pureD Fn scSi (fun ds S Q h => by obtain ⟨w, rfl, _⟩ := h; rfl) fun cdv A outer s H E hr => ⟨_, (dss_cons (ds_set (i := 1) sc.nd (de_lst (da_cons (de_tup (da_cons (de_v 0) (da_cons de_int da_nil))) da_nil)))
      (dss_cons (ds_set (i := 2) sc.nd de_int)
      (dss_cons (ds_while PassesOwn.never (dt_lt (de_v 2) (de_lenL T.len (de_v 1)))
      (dss_cons (ds_set (i := 1) sc.nd (de_addL (de_v 1) (de_lc (own := [("_law_part", 3)]) rfl sc.nd (di_list (de_f Cin (hr.mono (by first | exact Nat.le_refl _ | decide | omega)) (da_cons (de_ixT (de_ixL (de_v 1) (de_v 2)) de_int) da_nil))) (blkOk_by (N := ["_law_word_here", "_law_line", "_law_at", "_law_part", "_law_one", "_law_deep"]) (sc := defScope (top 15)) (by decide +kernel)) (fun _ _ _ _ _ => (dg_name (i := 3) sc.nd)) (fun _ _ _ _ _ => dts_nil) (fun _ _ _ _ _ => (de_tup (da_cons (de_v 3) (da_cons (de_add (de_ixT (de_ixL (de_v 1) (de_v 2)) de_int) de_int) da_nil)))))))
      (dss_one (ds_set (i := 2) sc.nd (de_add (de_v 2) de_int)))))
      (dss_one (ds_ret (de_tup (da_cons (de_lenL T.len (de_v 1)) (da_cons (de_max rfl T.max (de_lc (own := [("_law_one", 4), ("_law_deep", 5)]) rfl sc.nd (di_list (de_v 1)) (blkOk_by (N := ["_law_word_here", "_law_line", "_law_at", "_law_part", "_law_one", "_law_deep"]) (sc := defScope (top 15)) (by decide +kernel)) (fun _ _ _ _ _ => (dg_tup (n := 2) rfl (dgs_cons (dg_name (i := 4) sc.nd) (dgs_cons (dg_name (i := 5) sc.nd) dgs_nil)))) (fun _ _ _ _ _ => dts_nil) (fun _ _ _ _ _ => (de_v 5)))) da_nil)))))))), ?_⟩
  rintro ds S Q ⟨w, rfl, hz, k⟩
  have h100 := sizeLine_big
  walk_at "g"
  refine ⟨fun m env S' => S' = S ∧ ∃ (L : List (Wd × Int)) (i : Nat) (o3 o4 o5 : Option D), env = [some w.toD, some (.lst (L.map ln)), some (.int (i : Int)), o3, o4, o5] ∧ 0 < L.length ∧ i ≤ L.length ∧ i + szs (L.drop i) ≤ w.sz ∧ m = szs (L.drop i), ⟨w.sz, rfl, [(w, 1)], 0, none, none, none, rfl, by simp, by simp, by simp [szs], by simp [szs]⟩, ?_⟩
  rintro m env S' ⟨rfl, L, i, o3, o4, o5, rfl, hL, hi, hsz, rfl⟩
  have hlen : L.length ≤ 20000 := by
    have := szs_len (L.drop i)
    rw [List.length_drop] at this
    omega
  walk_at "g"
  simp only [List.length_map]
  by_cases hlt : (i : Int) < (L.length : Int)
  · simp only [hlt, decide_true]
    have hi2 : i < L.length := by omega
    have ed : L.drop i = L[i] :: L.drop (i + 1) := List.drop_eq_getElem_cons hi2
    have ei : atD (L.map ln) (i : Int) = some (ln L[i]) := atD_nat (by rw [List.getElem?_map, List.getElem?_eq_getElem hi2]; rfl)
    generalize L[i] = p at ed ei
    have es : szs (L.drop i) = p.1.sz + szs (L.drop (i + 1)) := by rw [ed]; rfl
    have hks := p.1.kid_sz
    obtain ⟨pw, pd⟩ := p
    refine s_seq ?_
    walk_at "w"
    refine fIxL_to (by rfl) ei ?_
    simp only [ln]
    walk_at "s"
    refine ⟨pw, rfl, ?_⟩
    walk_at "s"
    have kl : pw.kids.length ≤ 3 := by cases pw <;> simp [Wd.kids]
    refine lc_map (fun q => ln (q, pd + 1)) (by omega) (fun q hq R r => ?_) ?_
    · walk_at "w"
      refine fIxL_to (by rfl) ei ?_
      simp only [ln]
      walk_at "g"
      exact r
    simp only [fCat, lstX]
    refine And.intro (by simp; omega) ?_
    walk_at "g"
    have e1 : L.map ln ++ pw.kids.map (fun q => ln (q, pd + 1)) = (L ++ pw.kids.map fun q => (q, pd + 1)).map ln := by rw [List.map_append, List.map_map]; rfl
    have e2 : (L ++ pw.kids.map fun q => (q, pd + 1)).drop (i + 1) = L.drop (i + 1) ++ pw.kids.map fun q => (q, pd + 1) := by rw [List.drop_append_of_le_length (by omega)]
    have e3 : szs (pw.kids.map fun q => (q, pd + 1)) = (pw.kids.map Wd.sz).sum := by unfold szs; rw [List.map_map]; rfl
    have e4 : szs ((L ++ pw.kids.map fun q => (q, pd + 1)).drop (i + 1)) = szs (L.drop (i + 1)) + (pw.kids.map Wd.sz).sum := by rw [e2, szs_app, e3]
    have hks : (pw.kids.map Wd.sz).sum + 1 = pw.sz := hks
    have es : szs (L.drop i) = pw.sz + szs (L.drop (i + 1)) := es
    refine ⟨szs ((L ++ pw.kids.map fun q => (q, pd + 1)).drop (i + 1)), by omega, L ++ pw.kids.map (fun q => (q, pd + 1)), i + 1, o3, o4, o5, ?_, by simp; omega, by simp; omega, by omega, rfl⟩
    rw [e1]
    rfl
  · simp only [hlt, decide_false]
    walk_at "g"
    refine lc_fm (ys := L) (mk := ln) (fun p => some (.int p.2)) (by omega) (fun p hp R N hR hN => ?_) ?_
    · simp only [ln]
      walk_at "s"
      exact hR _ rfl
    have e1 : L.filterMap (fun p => some (D.int p.2)) = (L.map (·.2)).map D.int := by
      rw [List.map_map, ← List.filterMap_eq_map]
      rfl
    rw [e1]
    simp only [fMax, lstOf, intsOf_map]
    refine And.intro (by simpa using hL) fun m _ _ => ?_
    exact ⟨by decide, Fin.here (k _ m)⟩
/-! ### some word -/
def pWoA : PSpec := fun ds S Q => ∃ r : Nat, r ≤ 3 ∧ pWo r ds S Q
def pSw : PSpec := fun ds S Q => ∃ (b : Addr) (ns : List Str) (s : So) (r : Nat), ds = [.cel b, .lst (ns.map .str), s.toD, .int (r : Int)] ∧ Box S b ∧ NsOk ns ∧ s.dp ≤ 3 ∧ r ≤ 3 ∧
  ∀ (w : Wd) S', w.good → w.dp ≤ 12 → w.sz ≤ 13876 → Box S' b → SB b S S' → Q w.toD S'
theorem scSw : FnScope ["_law_box_here", "_law_names_here", "_law_sort", "_law_room", "_law_word_here", "_law_many", "_law_deep"] ["_law_box_here", "_law_names_here", "_law_sort", "_law_room"] (defScope (top 16)) := ⟨rfl, rfl, rfl, by decide +kernel, rfl, by decide +kernel, by decide +kernel⟩
theorem ok_woA (h : ∀ r, FnOk P w K mg base CX0 (6 + 2 * r) f fd ["_law_box_here", "_law_names_here", "_law_scope", "_law_sort", "_law_room"] (spP K (pWo r))) : FnOk P w K mg base CX0 12 f fd ["_law_box_here", "_law_names_here", "_law_scope", "_law_sort", "_law_room"] (spP K pWoA) :=
  ⟨fun vs H Q E ⟨F, S, ds, Qp, ok, rs, ⟨r, hr, hp⟩, post⟩ => (h r).len vs H Q E ⟨F, S, ds, Qp, ok, rs, hp, post⟩,
   fun A outer s H args us vs Q E h1 h2 h3 h4 ⟨F, S, ds, Qp, ok, rs, ⟨r, hr, hp⟩, post⟩ => ((h r).mono (by omega)).run A outer s H args us vs Q E h1 h2 h3 h4 ⟨F, S, ds, Qp, ok, rs, hp, post⟩⟩
theorem ok_sw (Fn : FnP K "_law_some_word" (top 16) f fd) (T : Txt mg) (Csi : Callee P w K mg base 2 "_law_size" ["_law_word_here"] pSi) (Cco : Callee P w K mg base 4 "_law_constant" ["_law_box_here", "_law_sort"] (pCo 3)) (Cwo : Callee P w K mg base 12 "_law_word" ["_law_box_here", "_law_names_here", "_law_scope", "_law_sort", "_law_room"] pWoA) : FnOk P w K mg base CX0 13 f fd ["_law_box_here", "_law_names_here", "_law_sort", "_law_room"] (spP K pSw) := by
  have sc := scSw
  refine fn_pureD Fn scSw (fun ds S Q h => by obtain ⟨b, ns, s, r, rfl, _⟩ := h; rfl) fun cdv A outer s H E hr => ⟨_, (dss_cons (ds_set (i := 4) sc.nd (de_f Cwo (hr.mono (by first | exact Nat.le_refl _ | decide | omega)) (da_cons (de_v 0) (da_cons (de_v 1) (da_cons (de_lst da_nil) (da_cons (de_v 2) (da_cons (de_v 3) da_nil)))))))
      (dss_cons (ds_asg (de_f Csi (hr.mono (by first | exact Nat.le_refl _ | decide | omega)) (da_cons (de_v 4) da_nil)) (dg_tup (n := 2) rfl (dgs_cons (dg_name (i := 5) sc.nd) (dgs_cons (dg_name (i := 6) sc.nd) dgs_nil))))
      (dss_one (ds_ret (de_if (DW.dt (dw_and (dt_lt (de_v 5) de_int) (dw_and1 (dt_lt (de_v 6) de_int)))) (de_v 4) (de_f Cco (hr.mono (by first | exact Nat.le_refl _ | decide | omega)) (da_cons (de_v 0) (da_cons (de_v 2) da_nil)))))))), ?_⟩
  rintro ds S Q ⟨b, ns, s, r, rfl, hB, hns, hs, hr3, k⟩
  have h100 := sizeLine_big
  have hZ : Zb r ≤ 13878 := by
    have : r = 0 ∨ r = 1 ∨ r = 2 ∨ r = 3 := by omega
    rcases this with rfl | rfl | rfl | rfl <;> decide
  walk_at "g"
  refine ⟨r, hr3, b, ns, [], s, rfl, hB, hns, by simp; omega, by simp [ScS], hs, fun w S1 g d z B1 sb1 => ?_⟩
  walk_at "g"
  refine ⟨w, rfl, by omega, fun m dd => ?_⟩
  walk_at "g"
  have fin : pCo 3 [.cel b, s.toD] S1 (Pz.Fin K Q) := ⟨b, s, rfl, B1, hs, by omega, fun w S2 g d z B2 sb2 => Fin.here (k w S2 g (by omega) (by omega) B2 (sb1.trans sb2))⟩
  by_cases h1 : m < 41
  · simp only [h1, decide_true]
    walk_at "g"
    by_cases h2 : dd < 13
    · simp only [h2, decide_true]
      walk_at "g"
      exact Fin.here (k w S1 g (by omega) (by omega) B1 sb1)
    · simp only [h2, decide_false]
      walk_at "g"
      exact fin
  · simp only [h1, decide_false]
    walk_at "g"
    exact fin
end
end K50

set_option Elab.async false
set_option linter.all false
set_option maxRecDepth 100000
set_option maxHeartbeats 4000000
namespace K50
open PySem PySem.Spec PyProof.Rows L2 Pz
local macro_rules | `(tactic| walk_at "w") => `(tactic| (try (simp only [wOp, wVar, wC, wB, wAsg, wRet, wDrop, gwName, gwSub, wIfS, wIf, wAndV, wOrV, wNotV, wNot, wAnd, wOr, wCB, wCons, wNil, wTup, wLst, wLstC, wCall, wPar, wAug, wAugS, wUn, wChain, wSl, wPart, wNoPart, wBM, wBM0, wIsi, wIsi2, fI0, fI, fLt, fLe, fGt, fGe, startD, List.map_cons, List.map_nil, List.length_cons, List.length_nil, List.replicate, List.cons_append, List.nil_append, Nat.reduceAdd, Nat.reduceSub, List.getElem?_cons_zero, List.getElem?_cons_succ, List.set_cons_zero, List.set_cons_succ, gwTup, gwCons, gwNil, true_and, wFor, wLc, wiL, wiR1, wiR2, wiS, wiT, wipeD, wFmt, wJoined, wJs, wTab, gwUnl])))
local macro_rules | `(tactic| walk_at "s") => `(tactic| (try (simp only [wOp, wVar, wC, wB, wAsg, wRet, wDrop, gwName, gwSub, wIfS, wIf, wAndV, wOrV, wNotV, wNot, wAnd, wOr, wCB, wCons, wNil, wTup, wLst, wLstC, wCall, wPar, wAug, wAugS, wUn, wChain, wSl, wPart, wNoPart, wBM, wBM0, wIsi, wIsi2, fI0, fI, fLt, fLe, fGt, fGe, startD, List.map_cons, List.map_nil, List.length_cons, List.length_nil, List.replicate, List.cons_append, List.nil_append, Nat.reduceAdd, Nat.reduceSub, List.getElem?_cons_zero, List.getElem?_cons_succ, List.set_cons_zero, List.set_cons_succ, gwTup, gwCons, gwNil, true_and, wFor, wLc, wiL, wiR1, wiR2, wiS, wiT, wipeD, wFmt, wJoined, wJs, wTab, gwUnl, fLenT, fLenLs, fEqS, fEqI, fNeS, fNeI, fIxLs, fIxTs, fSlT_1, atD_0, atD_1, atD_2, atD_3, atD_4, Int.cast_ofNat_Int, List.mem_cons, List.not_mem_nil, or_false, false_or, or_true, true_or, decide_true, decide_false, Bool.not_true, Bool.not_false, eq_self, seqOf, strsOf, Option.map_some, fInQ, Bool.false_eq_true, if_false, if_true, ne_num, ne_name, ne_yes, ne_no, ne_none, ne_choose, ne_let, ne_split, ne_give, ne_total, ne_size, ne_plus, ne_times, ne_below, ne_pair, ne_put, ne_join, ne_call, ne_row, ne_fun, ne_truth])))
local macro_rules | `(tactic| walk_at "g") => `(tactic| (repeat (first | (with_reducible refine s_seq ?_) | (with_reducible refine s_next ?_) | (with_reducible refine And.intro (by decide) ?_) | (simp only [wOp, wVar, wC, wB, wAsg, wRet, wDrop, gwName, gwSub, wIfS, wIf, wAndV, wOrV, wNotV, wNot, wAnd, wOr, wCB, wCons, wNil, wTup, wLst, wLstC, wCall, wPar, wAug, wAugS, wUn, wChain, wSl, wPart, wNoPart, wBM, wBM0, wIsi, wIsi2, fI0, fI, fLt, fLe, fGt, fGe, startD, List.map_cons, List.map_nil, List.length_cons, List.length_nil, List.replicate, List.cons_append, List.nil_append, Nat.reduceAdd, Nat.reduceSub, List.getElem?_cons_zero, List.getElem?_cons_succ, List.set_cons_zero, List.set_cons_succ, gwTup, gwCons, gwNil, true_and, wFor, wLc, wiL, wiR1, wiR2, wiS, wiT, wipeD, wFmt, wJoined, wJs, wTab, gwUnl, fLenT, fLenLs, fEqS, fEqI, fNeS, fNeI, fIxLs, fIxTs, fSlT_1, atD_0, atD_1, atD_2, atD_3, atD_4, Int.cast_ofNat_Int, List.mem_cons, List.not_mem_nil, or_false, false_or, or_true, true_or, decide_true, decide_false, Bool.not_true, Bool.not_false, eq_self, seqOf, strsOf, Option.map_some, fInQ, Bool.false_eq_true, if_false, if_true, ne_num, ne_name, ne_yes, ne_no, ne_none, ne_choose, ne_let, ne_split, ne_give, ne_total, ne_size, ne_plus, ne_times, ne_below, ne_pair, ne_put, ne_join, ne_call, ne_row, ne_fun, ne_truth]))))
local macro_rules | `(tactic| walk_at "o") => `(tactic| (repeat (refine And.intro (by omega) ?_)))
local macro_rules | `(tactic| walk_at "a") => `(tactic| (repeat (refine fAddS_to (by first | omega | (simp only [len_app]; omega)) ?_)))
def kept : List Str := ["yes", "no", "none", "total", "size", "if", "then", "else", "let", "in", "split", "give", "to", "num", "truth"]
def er (u : Str) (i : Nat) : List Nat := u.cps.toList.eraseIdx i
theorem kept3 : ∀ u ∈ kept, ∀ v ∈ kept, ∀ i ∈ List.range 8, (er u i = er v i ∧ ¬ u = v) → (kept.all fun x => !decide (er u i = er x i) || decide (x = u) || decide (x = v)) = true := by decide +kernel
theorem keptE : ∀ u ∈ kept, u.cps.toList.length ≤ 3 → u.cps.toList.head? = u.cps.toList.getLast? → False := by decide +kernel
theorem erase_ins (pre post : List Nat) (c : Nat) : (pre ++ [c] ++ post).eraseIdx pre.length = pre ++ post := by
  rw [List.append_assoc, List.eraseIdx_append_of_length_le (Nat.le_refl _)]
  simp
/-- two of the first four names stay -/
theorem two_stay {ys : List Str} (h : NmF 6 ys) : ∀ z, ∃ x ∈ (ys.filter fun y => !decide (y ∈ kept)).take 4, x ≠ z := by
  obtain ⟨stem, sp, mixed, sgn, hd, rfl⟩ := h
  have nd := hd
  generalize hn : nmS stem sp mixed sgn = nm at *
  have inj : ∀ j k, j < 6 → k < 6 → nm j = nm k → j = k := by rw [← hn]; exact fun j k hj hk e => nm_inj hd hj hk e
  have eqr : (List.range 6).map nm = [nm 0, nm 1, nm 2, nm 3, nm 4, nm 5] := rfl
  rw [eqr]
  have sub : ∀ j, j < 4 → nm j ∉ kept → nm j ∈ ([nm 0, nm 1, nm 2, nm 3, nm 4, nm 5].filter fun y => !decide (y ∈ kept)).take 4 := by
    intro j hj hk
    have e : [nm 0, nm 1, nm 2, nm 3, nm 4, nm 5] = [nm 0, nm 1, nm 2, nm 3] ++ [nm 4, nm 5] := rfl
    have hm : nm j ∈ [nm 0, nm 1, nm 2, nm 3].filter fun y => !decide (y ∈ kept) := by
      refine List.mem_filter.mpr ⟨?_, by simp [hk]⟩
      have : j = 0 ∨ j = 1 ∨ j = 2 ∨ j = 3 := by omega
      rcases this with rfl | rfl | rfl | rfl <;> simp
    have hl : ([nm 0, nm 1, nm 2, nm 3].filter fun y => !decide (y ∈ kept)).length ≤ 4 := List.length_filter_le _ _
    rw [e, List.filter_append, List.take_append]
    rw [List.take_of_length_le hl]
    exact List.mem_append_left _ hm
  have fin : ∀ i j, i < 4 → j < 4 → i ≠ j → nm i ∉ kept → nm j ∉ kept → ∀ z, ∃ x ∈ ([nm 0, nm 1, nm 2, nm 3, nm 4, nm 5].filter fun y => !decide (y ∈ kept)).take 4, x ≠ z := by
    intro i j hi hj hij h1 h2 z
    by_cases hz : nm i = z
    · exact ⟨nm j, sub j hj h2, fun e => hij (inj i j (by omega) (by omega) (hz.trans e.symm))⟩
    · exact ⟨nm i, sub i hi h1, hz⟩
  have hmx := hd.mx
  have hcase : mixed = 1 ∨ mixed = 0 := by omega
  rcases hcase with rfl | rfl
  · -- every other one begins and ends alike
    have odd : ∀ k, k = 1 ∨ k = 3 → nm k ∉ kept := by
      intro k hk hm
      have ec : (nm k).cps.toList = [sgn k] ++ stem.take (k % 3) ++ [sgn k] := by
        rw [← hn]
        show nmOf stem sp 1 sgn k = _
        unfold nmOf
        rw [if_neg (by omega)]
      refine keptE _ hm ?_ ?_
      · rw [ec]; simp only [List.length_append, List.length_cons, List.length_nil, List.length_take]; omega
      · rw [ec, List.getLast?_concat]; rfl
    exact fin 1 3 (by omega) (by omega) (by omega) (odd 1 (.inl rfl)) (odd 3 (.inr rfl))
  · -- unlike in one sign alone
    have ee : ∀ k, er (nm k) sp = stem.take sp ++ stem.drop sp := by
      intro k
      have ec : (nm k).cps.toList = stem.take sp ++ [sgn k] ++ stem.drop sp := by
        rw [← hn]
        show nmOf stem sp 0 sgn k = _
        unfold nmOf
        rw [if_pos (by omega)]
      unfold er
      rw [ec]
      have := erase_ins (stem.take sp) (stem.drop sp) (sgn k)
      rw [List.length_take, Nat.min_eq_left hd.sp] at this
      exact this
    have three : ∀ i j k, i < 4 → j < 4 → k < 4 → i ≠ j → i ≠ k → j ≠ k → nm i ∈ kept → nm j ∈ kept → nm k ∈ kept → False := by
      intro i j k hi hj hk hij hik hjk h1 h2 h3
      have hsp : sp ∈ List.range 8 := List.mem_range.mpr (by have := hd.sp; have := hd.len; omega)
      have q := kept3 _ h1 _ h2 sp hsp ⟨by rw [ee, ee], fun e => hij (inj i j (by omega) (by omega) e)⟩
      have q2 := List.all_eq_true.mp q _ h3
      rw [ee, ee] at q2
      simp only [decide_true, Bool.not_true, Bool.false_or, Bool.or_eq_true, decide_eq_true_eq] at q2
      rcases q2 with e | e
      · exact hik (inj k i (by omega) (by omega) e).symm
      · exact hjk (inj k j (by omega) (by omega) e).symm
    by_cases h0 : nm 0 ∈ kept
    · by_cases h1 : nm 1 ∈ kept
      · have h2 : nm 2 ∉ kept := fun h => three 0 1 2 (by omega) (by omega) (by omega) (by omega) (by omega) (by omega) h0 h1 h
        have h3 : nm 3 ∉ kept := fun h => three 0 1 3 (by omega) (by omega) (by omega) (by omega) (by omega) (by omega) h0 h1 h
        exact fin 2 3 (by omega) (by omega) (by omega) h2 h3
      · by_cases h2 : nm 2 ∈ kept
        · have h3 : nm 3 ∉ kept := fun h => three 0 2 3 (by omega) (by omega) (by omega) (by omega) (by omega) (by omega) h0 h2 h
          exact fin 1 3 (by omega) (by omega) (by omega) h1 h3
        · exact fin 1 2 (by omega) (by omega) (by omega) h1 h2
    · by_cases h1 : nm 1 ∈ kept
      · by_cases h2 : nm 2 ∈ kept
        · have h3 : nm 3 ∉ kept := fun h => three 1 2 3 (by omega) (by omega) (by omega) (by omega) (by omega) (by omega) h1 h2 h
          exact fin 0 3 (by omega) (by omega) (by omega) h0 h3
        · exact fin 0 2 (by omega) (by omega) (by omega) h0 h2
      · exact fin 0 1 (by omega) (by omega) (by omega) h0 h1
section
variable {P : Program} {w : World} {K : PySem.W.Frag} {mg : Str → Option Value} {base : Heap} {f : Addr} {fd : FuncData}
def pWn : PSpec := fun ds S Q => ∃ b : Addr, ds = [.cel b] ∧ Box S b ∧ ∀ (ns : List Str) S', NsOk ns → Box S' b → SB b S S' → Q (.lst (ns.map .str)) S'
theorem scWn : FnScope ["_law_box_here", "_law_kept", "_law_name"] ["_law_box_here"] (defScope (top 17)) := ⟨rfl, rfl, rfl, by decide +kernel, rfl, by decide +kernel, by decide +kernel⟩
theorem ok_wn (Fn : FnP K "_law_word_names" (top 17) f fd) (T : Txt mg) (Cn : Callee P w K mg base 2 "_law_names" ["_law_box_here", "_law_many"] pNm) : FnOk P w K mg base CX0 3 f fd ["_law_box_here"] (spP K pWn) := by
  have sc := scWn
  refine fn_pureD Fn scWn (fun ds S Q h => by obtain ⟨b, rfl, _⟩ := h; rfl) fun cdv A outer s H E hr => ⟨_, (dss_cons (ds_set (i := 1) sc.nd (de_lst (da_cons de_str (da_cons de_str (da_cons de_str (da_cons de_str (da_cons de_str (da_cons de_str (da_cons de_str (da_cons de_str (da_cons de_str (da_cons de_str (da_cons de_str (da_cons de_str (da_cons de_str da_nil)))))))))))))))
      (dss_one (ds_ret (de_slL (de_lc (own := [("_law_name", 2)]) rfl sc.nd (di_list (de_f Cn (hr.mono (by first | exact Nat.le_refl _ | decide | omega)) (da_cons (de_v 0) (da_cons de_int da_nil)))) (blkOk_by (N := ["_law_box_here", "_law_kept", "_law_name"]) (sc := defScope (top 17)) (by decide +kernel)) (fun _ _ _ _ _ => (dg_name (i := 2) sc.nd)) (fun _ _ _ _ _ => (dts_one (dt_niL (de_v 2) (de_addL (de_v 1) (de_lst (da_cons de_str (da_cons de_str da_nil))))))) (fun _ _ _ _ _ => (de_v 2))) do_none (do_some de_int))))), ?_⟩
  rintro ds S Q ⟨b, rfl, hB, k⟩
  have h100 := sizeLine_big
  walk_at "g"
  refine ⟨b, 6, rfl, hB, by decide, fun ys S1 hy B1 sb1 => ?_⟩
  walk_at "g"
  have hl6 := hy.len
  refine lc_fm (ys := ys) (mk := D.str) (fun y => if y ∈ kept then none else some (.str y)) (by omega) (fun y hyy R N hR hN => ?_) ?_
  · walk_at "w"
    simp only [fCat, lstX]
    refine And.intro (by decide) (And.intro (by decide) ?_)
    show fInQ true (D.str y) (D.lst (kept.map D.str)) S1 _
    simp only [fInQ, seqOf, strsOf_map, if_true]
    by_cases hk : y ∈ kept
    · simp only [hk, decide_true, Bool.not_true]
      exact hN (by rw [if_pos hk])
    · simp only [hk, decide_false, Bool.not_false]
      exact hR _ (by rw [if_neg hk])
  have e1 : ys.filterMap (fun y => if y ∈ kept then none else some (D.str y)) = (ys.filter fun y => !decide (y ∈ kept)).map D.str := by
    rw [← List.filterMap_eq_map, List.filterMap_filter]
    congr 1
    funext y
    by_cases hk : y ∈ kept
    · simp [hk]
    · simp [hk]
  rw [e1]
  simp only [fSlL, lstOf]
  have e2 : cutP ((ys.filter fun y => !decide (y ∈ kept)).map D.str) none (some 4) = ((ys.filter fun y => !decide (y ∈ kept)).take 4).map D.str := by
    unfold cutP
    have e4 : HT.sIx ((ys.filter fun y => !decide (y ∈ kept)).map D.str).length ((ys.filter fun y => !decide (y ∈ kept)).map D.str).length (some 4) = min 4 (ys.filter fun y => !decide (y ∈ kept)).length := by
      have := HT.sIx_nat ((ys.filter fun y => !decide (y ∈ kept)).map D.str).length ((ys.filter fun y => !decide (y ∈ kept)).map D.str).length 4
      rw [List.length_map] at this
      rw [List.length_map]
      exact this
    rw [e4, HT.sIx_none, List.drop_zero, Nat.sub_zero, List.map_take]
    exact List.take_eq_take_iff.mpr (by simp)
  rw [e2]
  refine Fin.here (k _ S1 ⟨?_, fun x hx => ?_, two_stay hy⟩ B1 sb1)
  · have := List.length_take_le 4 (ys.filter fun y => !decide (y ∈ kept)); omega
  · have hx2 := (List.mem_filter.mp (List.mem_of_mem_take hx)).1
    exact (isName_len (hy.name x hx2)).2
end
end K50

set_option Elab.async false
set_option linter.all false
set_option maxRecDepth 100000
set_option maxHeartbeats 4000000
namespace K50
open PySem PySem.Spec PyProof.Rows L2 Pz
local macro_rules | `(tactic| walk_at "w") => `(tactic| (try (simp only [wOp, wVar, wC, wB, wAsg, wRet, wDrop, gwName, gwSub, wIfS, wIf, wAndV, wOrV, wNotV, wNot, wAnd, wOr, wCB, wCons, wNil, wTup, wLst, wLstC, wCall, wPar, wAug, wAugS, wUn, wChain, wSl, wPart, wNoPart, wBM, wBM0, wIsi, wIsi2, fI0, fI, fLt, fLe, fGt, fGe, startD, List.map_cons, List.map_nil, List.length_cons, List.length_nil, List.replicate, List.cons_append, List.nil_append, Nat.reduceAdd, Nat.reduceSub, List.getElem?_cons_zero, List.getElem?_cons_succ, List.set_cons_zero, List.set_cons_succ, gwTup, gwCons, gwNil, true_and, wFor, wLc, wiL, wiR1, wiR2, wiS, wiT, wipeD, wFmt, wJoined, wJs, wTab, gwUnl])))
local macro_rules | `(tactic| walk_at "s") => `(tactic| (try (simp only [wOp, wVar, wC, wB, wAsg, wRet, wDrop, gwName, gwSub, wIfS, wIf, wAndV, wOrV, wNotV, wNot, wAnd, wOr, wCB, wCons, wNil, wTup, wLst, wLstC, wCall, wPar, wAug, wAugS, wUn, wChain, wSl, wPart, wNoPart, wBM, wBM0, wIsi, wIsi2, fI0, fI, fLt, fLe, fGt, fGe, startD, List.map_cons, List.map_nil, List.length_cons, List.length_nil, List.replicate, List.cons_append, List.nil_append, Nat.reduceAdd, Nat.reduceSub, List.getElem?_cons_zero, List.getElem?_cons_succ, List.set_cons_zero, List.set_cons_succ, gwTup, gwCons, gwNil, true_and, wFor, wLc, wiL, wiR1, wiR2, wiS, wiT, wipeD, wFmt, wJoined, wJs, wTab, gwUnl, fLenT, fLenLs, fEqS, fEqI, fNeS, fNeI, fIxLs, fIxTs, fSlT_1, atD_0, atD_1, atD_2, atD_3, atD_4, Int.cast_ofNat_Int, List.mem_cons, List.not_mem_nil, or_false, false_or, or_true, true_or, decide_true, decide_false, Bool.not_true, Bool.not_false, eq_self, seqOf, strsOf, Option.map_some, fInQ, Bool.false_eq_true, if_false, if_true, ne_num, ne_name, ne_yes, ne_no, ne_none, ne_choose, ne_let, ne_split, ne_give, ne_total, ne_size, ne_plus, ne_times, ne_below, ne_pair, ne_put, ne_join, ne_call, ne_row, ne_fun, ne_truth])))
local macro_rules | `(tactic| walk_at "g") => `(tactic| (repeat (first | (with_reducible refine s_seq ?_) | (with_reducible refine s_next ?_) | (with_reducible refine And.intro (by decide) ?_) | (simp only [wOp, wVar, wC, wB, wAsg, wRet, wDrop, gwName, gwSub, wIfS, wIf, wAndV, wOrV, wNotV, wNot, wAnd, wOr, wCB, wCons, wNil, wTup, wLst, wLstC, wCall, wPar, wAug, wAugS, wUn, wChain, wSl, wPart, wNoPart, wBM, wBM0, wIsi, wIsi2, fI0, fI, fLt, fLe, fGt, fGe, startD, List.map_cons, List.map_nil, List.length_cons, List.length_nil, List.replicate, List.cons_append, List.nil_append, Nat.reduceAdd, Nat.reduceSub, List.getElem?_cons_zero, List.getElem?_cons_succ, List.set_cons_zero, List.set_cons_succ, gwTup, gwCons, gwNil, true_and, wFor, wLc, wiL, wiR1, wiR2, wiS, wiT, wipeD, wFmt, wJoined, wJs, wTab, gwUnl, fLenT, fLenLs, fEqS, fEqI, fNeS, fNeI, fIxLs, fIxTs, fSlT_1, atD_0, atD_1, atD_2, atD_3, atD_4, Int.cast_ofNat_Int, List.mem_cons, List.not_mem_nil, or_false, false_or, or_true, true_or, decide_true, decide_false, Bool.not_true, Bool.not_false, eq_self, seqOf, strsOf, Option.map_some, fInQ, Bool.false_eq_true, if_false, if_true, ne_num, ne_name, ne_yes, ne_no, ne_none, ne_choose, ne_let, ne_split, ne_give, ne_total, ne_size, ne_plus, ne_times, ne_below, ne_pair, ne_put, ne_join, ne_call, ne_row, ne_fun, ne_truth]))))
local macro_rules | `(tactic| walk_at "o") => `(tactic| (repeat (refine And.intro (by omega) ?_)))
local macro_rules | `(tactic| walk_at "a") => `(tactic| (repeat (refine fAddS_to (by first | omega | (simp only [len_app]; omega)) ?_)))
section
variable {P : Program} {w : World} {K : PySem.W.Frag} {mg : Str → Option Value} {base : Heap} {f : Addr} {fd : FuncData}
theorem lc_sub {α : Type} {ys : List α} {mk : α → D} {S1 : Store} {Q : PQ} {g : WG} {wt : WT} {we : WE} {vs : List Nat} {env : En} (Pd : D → Prop) (hl : ys.length ≤ sizeLine)
    (hs : ∀ y, y ∈ ys → ∀ (R : PQ) (N : Store → Prop), (∀ d, Pd d → R d S1) → N S1 → g (mk y) (wipeD env vs) S1 fun env2 S2 => wt env2 S2 fun k S3 => match k with
      | true => we env2 S3 R
      | false => N S3) (hQ : ∀ acc, acc.length ≤ ys.length → (∀ d ∈ acc, Pd d) → Q (.lst acc) S1) : LcGo g wt we vs env Q (ys.map mk) S1 := by
  refine ⟨fun i acc S => S = S1 ∧ acc.length ≤ i ∧ i ≤ ys.length ∧ ∀ d ∈ acc, Pd d, ⟨rfl, Nat.le_refl _, Nat.zero_le _, by simp⟩, ?_⟩
  rintro i acc S ⟨rfl, h1, h2, h3⟩
  rw [List.getElem?_map]
  cases e : ys[i]? with
  | none => exact hQ acc (by omega) h3
  | some x =>
    have hi := (List.getElem?_eq_some_iff.mp e).1
    refine hs x (List.mem_of_getElem? e) _ _ (fun d hd => ⟨by omega, rfl, by simp; omega, by omega, fun d' hd' => ?_⟩) ⟨rfl, by omega, by omega, h3⟩
    rcases List.mem_append.mp hd' with hd' | hd'
    · exact h3 d' hd'
    · rw [List.mem_singleton.mp hd']; exact hd
def pLaw : PSpec := fun ds S Q => ∃ ns : List Int, ds = [.fro (ns.map .int)] ∧ ns.length ≤ 63 ∧ ∀ S', Q (.bl true) S'
def Gw (w : Wd) : Prop := w.good ∧ w.dp ≤ 16 ∧ w.sz ≤ 20000
theorem scLaw : FnScope ["_law_script", "_law_box_here", "_law_step", "_law_names_here", "_law_word_here", "_law_sort", "_law_fun", "_law_some", "_law_one"] ["_law_script"] (defScope (top 21)) := ⟨rfl, rfl, rfl, by decide +kernel, rfl, by decide +kernel, by decide +kernel⟩
theorem ok_law (Fn : FnP K "law" (top 21) f fd) (T : Txt mg) (Ct : Callee P w K mg base 1 "_law_take" ["_law_box_here", "_law_many"] pTake) (Cb : Callee P w K mg base 1 "_law_box" ["_law_script"] pBox) (Cs : Callee P w K mg base 2 "_law_same" ["_law_found", "_law_due"] (pSame 2))
    (Cwn : Callee P w K mg base 3 "_law_word_names" ["_law_box_here"] pWn) (Csw : Callee P w K mg base 13 "_law_some_word" ["_law_box_here", "_law_names_here", "_law_sort", "_law_room"] pSw) (Cds : Callee P w K mg base 6 "_law_data_sort" ["_law_box_here", "_law_deep"] (pDS 5)) (Cas : Callee P w K mg base 7 "_law_any_sort" ["_law_box_here", "_law_deep"] (pDS 6)) (Csi : Callee P w K mg base 2 "_law_size" ["_law_word_here"] pSi)
    (Cwt : Callee P w K mg base 16 "word_text" ["word"] (pWT 16)) (Clw : Callee P w K mg base 17 "_law_word_text" ["_law_word_here"] (pWT 16)) (Cst : Callee P w K mg base 6 "sort_text" ["sort"] (pST 6)) (Cls : Callee P w K mg base 6 "_law_sort_text" ["_law_sort"] (pST 6)) : FnOk P w K mg base CX0 18 f fd ["_law_script"] (spP K pLaw) := by
  have sc := scLaw
  refine fn_pureD Fn scLaw (fun ds S Q h => by obtain ⟨ns, rfl, _⟩ := h; rfl) fun cdv A outer s H E hr => ⟨_, (dss_cons (ds_set (i := 1) sc.nd (de_f Cb (hr.mono (by first | exact Nat.le_refl _ | decide | omega)) (da_cons (de_v 0) da_nil)))
      (dss_cons (ds_for PassesOwn.never rfl (di_range1 T.range de_int) (dg_name (i := 2) sc.nd)
      (dss_cons (ds_set (i := 3) sc.nd (de_f Cwn (hr.mono (by first | exact Nat.le_refl _ | decide | omega)) (da_cons (de_v 1) da_nil)))
      (dss_cons (ds_set (i := 4) sc.nd (de_f Csw (hr.mono (by first | exact Nat.le_refl _ | decide | omega)) (da_cons (de_v 1) (da_cons (de_v 3) (da_cons (de_f Cds (hr.mono (by first | exact Nat.le_refl _ | decide | omega)) (da_cons (de_v 1) (da_cons de_int da_nil))) (da_cons (de_add de_int (de_f Ct (hr.mono (by first | exact Nat.le_refl _ | decide | omega)) (da_cons (de_v 1) (da_cons de_int da_nil)))) da_nil))))))
      (dss_cons (ds_set (i := 5) sc.nd (de_f Cas (hr.mono (by first | exact Nat.le_refl _ | decide | omega)) (da_cons (de_v 1) (da_cons de_int da_nil))))
      (dss_cons (ds_set (i := 6) sc.nd (de_tup (da_cons de_str (da_cons (de_ixL (de_v 3) de_int) (da_cons (de_v 5) (da_cons (de_tup (da_cons de_str (da_cons (de_v 4) (da_cons (de_tup (da_cons de_str (da_cons (de_ixL (de_v 3) de_int) da_nil))) da_nil)))) da_nil))))))
      (dss_cons (ds_set (i := 7) sc.nd (de_lst (da_cons (de_v 6) (da_cons (de_tup (da_cons de_str (da_cons (de_v 6) (da_cons (de_tup (da_cons de_str (da_cons (de_ixL (de_v 3) de_int) da_nil))) da_nil)))) da_nil))))
      (dss_cons (ds_setLc (i := 7) (own := [("_law_one", 8)]) rfl sc.nd (di_list (de_v 7)) (blkOk_by (N := ["_law_script", "_law_box_here", "_law_step", "_law_names_here", "_law_word_here", "_law_sort", "_law_fun", "_law_some", "_law_one"]) (sc := defScope (top 21)) (by decide +kernel)) (fun _ _ _ _ _ => (dg_name (i := 8) sc.nd)) (fun _ _ _ _ _ => (dts_one (DW.dt (dw_and (dt_lt (de_ixT (de_f Csi (hr.mono (by first | exact Nat.le_refl _ | decide | omega)) (da_cons (de_v 8) da_nil)) de_int) de_int) (dw_and1 (dt_lt (de_ixT (de_f Csi (hr.mono (by first | exact Nat.le_refl _ | decide | omega)) (da_cons (de_v 8) da_nil)) de_int) de_int)))))) (fun _ _ _ _ _ => (de_v 8)) (sw_true rfl rfl rfl (by decide +kernel)))
      (dss_cons (ds_for PassesOwn.never rfl (di_list (de_addL (de_v 7) (de_lst (da_cons (de_v 4) (da_cons (de_tup (da_cons de_str (da_cons (de_f Cds (hr.mono (by first | exact Nat.le_refl _ | decide | omega)) (da_cons (de_v 1) (da_cons de_int da_nil))) da_nil))) da_nil))))) (dg_name (i := 8) sc.nd)
      (dss_one (ds_if (dt_not (dt_val (de_f Cs (hr.mono (by first | exact Nat.le_refl _ | decide | omega)) (da_cons (de_lst (da_cons (de_f Cwt (hr.mono (by first | exact Nat.le_refl _ | decide | omega)) (da_cons (de_v 8) da_nil)) (da_cons (de_f Cwt (hr.mono (by first | exact Nat.le_refl _ | decide | omega)) (da_cons (de_v 8) da_nil)) da_nil))) (da_cons (de_mulL (de_lst (da_cons (de_f Clw (hr.mono (by first | exact Nat.le_refl _ | decide | omega)) (da_cons (de_v 8) da_nil)) da_nil)) de_int) da_nil)))))
      (dss_one (ds_ret de_bl))
      dss_nil)))
      (dss_one (ds_if (dt_not (dt_val (de_f Cs (hr.mono (by first | exact Nat.le_refl _ | decide | omega)) (da_cons (de_f Cst (hr.mono (by first | exact Nat.le_refl _ | decide | omega)) (da_cons (de_v 5) da_nil)) (da_cons (de_f Cls (hr.mono (by first | exact Nat.le_refl _ | decide | omega)) (da_cons (de_v 5) da_nil)) da_nil)))))
      (dss_one (ds_ret de_bl))
      dss_nil))))))))))
      (dss_one (ds_ret (de_eq (de_f Cwt (hr.mono (by first | exact Nat.le_refl _ | decide | omega)) (da_cons (de_tup (da_cons de_str (da_cons (de_tup (da_cons de_str (da_cons de_int da_nil))) (da_cons (de_tup (da_cons de_str (da_cons (de_tup (da_cons de_str (da_cons de_str da_nil))) (da_cons (de_tup (da_cons de_str da_nil)) da_nil)))) da_nil)))) da_nil)) de_str))))), ?_⟩
  rintro ds S Q ⟨ns, rfl, hns, k⟩
  have h100 := sizeLine_big
  walk_at "g"
  refine ⟨ns, rfl, hns, fun b S1 _ B1 sb1 => ?_⟩
  walk_at "g"
  refine for_go (fun i env S' => Box S' b ∧ ∃ o2 o3 o4 o5 o6 o7 o8 : Option D, env = [some (.fro (ns.map .int)), some (.cel b), o2, o3, o4, o5, o6, o7, o8]) ⟨B1, none, none, none, none, none, none, none, rfl⟩ ?_ ?_
  · rintro i x env S' hx ⟨B, o2, o3, o4, o5, o6, o7, o8, rfl⟩
    walk_at "g"
    refine ⟨b, rfl, B, fun nm S2 hnm B2 sb2 => ?_⟩
    walk_at "g"
    refine ⟨b, 3, rfl, B2, by decide, by decide, fun t S3 ht B3 sb3 => ?_⟩
    walk_at "g"
    refine ⟨b, 3, rfl, B3, by decide, by decide, fun r S4 r0 r1 B4 sb4 => ?_⟩
    walk_at "g"
    obtain ⟨rn, ern⟩ : ∃ rn : Nat, 1 + r = (rn : Int) := ⟨(1 + r).toNat, by omega⟩
    rw [ern]
    refine ⟨b, nm, t, rn, rfl, B4, hnm, by omega, by omega, fun w S5 gw dw zw B5 sb5 => ?_⟩
    walk_at "g"
    refine ⟨b, 6, rfl, B5, by decide, by decide, fun so S6 hso B6 sb6 => ?_⟩
    have hso6 : so.dp ≤ 6 := by omega
    have n8 := hnm.small
    obtain ⟨n0, n1, nr, enm⟩ : ∃ n0 n1 nr, nm = n0 :: n1 :: nr := by
      match nm, hnm.two with
      | [], h => obtain ⟨x, hx, _⟩ := h ""; cases hx
      | [a], h =>
        obtain ⟨x, hx, hne⟩ := h a
        exact absurd (List.mem_singleton.mp hx) hne
      | a :: c :: r, _ => exact ⟨a, c, r, rfl⟩
    have h80 : n0.length ≤ 8 := n8 n0 (by rw [enm]; simp)
    have h81 : n1.length ≤ 8 := n8 n1 (by rw [enm]; simp)
    have em : nm.map D.str = .str n0 :: .str n1 :: nr.map D.str := by rw [enm]; rfl
    walk_at "w"
    rw [em]
    walk_at "g"
    have hF : Gw (.give n0 so (.bin .pair w (.name n0))) := ⟨⟨h80, hso6, gw, h80⟩, by simp only [Wd.dp]; omega, by simp only [Wd.sz]; omega⟩
    have hC : Gw (.bin .call (.give n0 so (.bin .pair w (.name n0))) (.name n1)) := ⟨⟨⟨h80, hso6, gw, h80⟩, h81⟩, by simp only [Wd.dp]; omega, by simp only [Wd.sz]; omega⟩
    refine lc_sub (ys := [Wd.give n0 so (.bin .pair w (.name n0)), .bin .call (.give n0 so (.bin .pair w (.name n0))) (.name n1)]) (mk := Wd.toD) (fun d => ∃ w, d = w.toD ∧ Gw w) (by show 2 ≤ _; omega) (fun y hy R N hR hN => ?_) fun acc hacc hall => ?_
    · have hy2 : Gw y := by
        simp only [List.mem_cons, List.not_mem_nil, or_false] at hy
        rcases hy with rfl | rfl
        · exact hF
        · exact hC
      walk_at "g"
      refine ⟨y, rfl, hy2.2.2, fun m dd => ?_⟩
      walk_at "g"
      by_cases h1 : m < 41
      · simp only [h1, decide_true]
        walk_at "g"
        refine ⟨y, rfl, hy2.2.2, fun m' dd' => ?_⟩
        walk_at "g"
        by_cases h2 : dd' < 13
        · simp only [h2, decide_true]
          exact hR _ ⟨y, rfl, hy2⟩
        · simp only [h2, decide_false]
          exact hN
      · simp only [h1, decide_false]
        exact hN
    walk_at "g"
    refine ⟨b, 5, rfl, B6, by decide, by decide, fun t5 S7 ht5 B7 sb7 => ?_⟩
    have h5 : t5.dp ≤ 5 := by omega
    refine And.intro (by decide) (And.intro (by decide) ?_)
    simp only [fCat, lstX]
    have hacc2 : acc.length ≤ 2 := hacc
    refine And.intro (by simp; omega) ?_
    have hall2 : ∀ d ∈ acc ++ [w.toD, .tup [.str "none", t5.toD]], ∃ w, d = w.toD ∧ Gw w := by
      intro d hd
      rcases List.mem_append.mp hd with hd | hd
      · exact hall d hd
      · simp only [List.mem_cons, List.not_mem_nil, or_false] at hd
        rcases hd with rfl | rfl
        · exact ⟨w, rfl, gw, by omega, by omega⟩
        · exact ⟨.none t5, rfl, (show t5.dp ≤ 6 by omega), by simp only [Wd.dp]; omega, by simp only [Wd.sz]; omega⟩
    generalize acc ++ [w.toD, .tup [.str "none", t5.toD]] = rows at hall2
    refine for_go (fun i env S' => Box S' b ∧ ∃ o3 o4 o6 o7 o8 : Option D, env = [some (.fro (ns.map .int)), some (.cel b), some x, o3, o4, some so.toD, o6, o7, o8]) ⟨B7, _, _, _, _, _, rfl⟩ ?_ ?_
    · rintro i2 d env S' hx2 ⟨B', p3, p4, p6, p7, p8, rfl⟩
      obtain ⟨w2, rfl, g2, d2, z2⟩ := hall2 d (List.mem_of_getElem? hx2)
      walk_at "g"
      refine ⟨w2, rfl, d2, g2, z2, ?_⟩
      refine ⟨w2, rfl, d2, g2, z2, ?_⟩
      refine And.intro (by decide) ?_
      refine ⟨w2, rfl, d2, g2, z2, ?_⟩
      refine And.intro (by decide) ?_
      simp only [fRep, lstX]
      refine And.intro ⟨by decide, by decide, by show 1 * 2 ≤ sizeLine; decide⟩ ?_
      have efl : (List.replicate (2 : Int).toNat [D.str w2.txt]).flatten = [.str w2.txt, .str w2.txt] := rfl
      rw [efl]
      refine ⟨_, _, rfl, .lst (by show 2 ≤ 100000; decide) fun j x y hx hy => ?_, ?_⟩
      · have h1 := List.mem_of_getElem? hx
        have h2 := List.mem_of_getElem? hy
        simp only [List.mem_cons, List.not_mem_nil, or_false, or_self] at h1 h2
        rw [h1, h2]
        exact .sc rfl rfl
      have es : sameD (.lst [.str w2.txt, .str w2.txt]) (.lst [.str w2.txt, .str w2.txt]) = true := by simp [sameD, sameDs]
      rw [es]
      walk_at "g"
      exact ⟨B', _, _, _, _, _, rfl⟩
    · rintro i2 env S' hx2 ⟨B', p3, p4, p6, p7, p8, rfl⟩
      walk_at "g"
      refine ⟨so, rfl, hso6, by omega, ?_⟩
      refine ⟨so, rfl, hso6, by omega, ?_⟩
      refine ⟨_, _, rfl, .sc rfl rfl, ?_⟩
      have es : sameD (.str so.txt) (.str so.txt) = true := decide_eq_true rfl
      rw [es]
      walk_at "g"
      exact ⟨B', _, _, _, _, _, _, _, rfl⟩
  · rintro i env S' hx ⟨B, o2, o3, o4, o5, o6, o7, o8, rfl⟩
    walk_at "g"
    refine ⟨.bin .plus (.num 1) (.bin .call (.name "f") .yes), rfl, by decide, ⟨(by show 1 ≤ 9; decide), (by show ("f" : Str).length ≤ 8; decide +kernel), trivial⟩, by decide, ?_⟩
    have e : (Wd.bin .plus (.num 1) (.bin .call (.name "f") .yes)).txt = "(1 + (f yes))" := by decide +kernel
    rw [e]
    walk_at "g"
    exact Fin.here (k _)
end
end K50

set_option Elab.async false
set_option linter.all false
set_option maxRecDepth 100000
set_option maxHeartbeats 4000000
/-! the head's look: defs, facts, tables and further yes-or-no looks -/
namespace Pz
open PySem PySem.Spec PyProof.Rows L2 He
theorem lookup_mem {z y : Str} : ∀ {kvs : List (Str × Str)}, kvs.lookup z = some y → (z, y) ∈ kvs
  | [], h => by cases h
  | (a, b) :: r, h => by
    rw [List.lookup_cons] at h
    split at h
    · rename_i e
      have e2 : z = a := by simpa using e
      cases h
      rw [e2]
      exact List.mem_cons_self
    · exact List.mem_cons_of_mem _ (lookup_mem h)
abbrev AlX : Type := AlT × List Bool
def obsXG (n : Nat) (fa : List Fa) (fn : List DefD) (ts : List Tab) (xs : List (PySem.W.Frag → Bool)) (g : Addr → Option Obj) : AlX := (obsT fa fn ts (frG g (asD g n)), xs.map fun x => x (frG g (asD g n)))
def SaysX (fa : List Fa) (fn : List DefD) (ts : List Tab) (xs : List (PySem.W.Frag → Bool)) (w : World) (K : PySem.W.Frag) : Prop := SaysT fa fn ts w K ∧ ∀ x ∈ xs, x K = true
theorem all_true {xs : List (PySem.W.Frag → Bool)} {K : PySem.W.Frag} (h : (xs.map fun x => x K) = xs.map fun _ => true) : ∀ x ∈ xs, x K = true := by
  induction xs with
  | nil => simp
  | cons y ys ih =>
    rw [List.map_cons, List.map_cons] at h
    injection h with h1 h2
    intro x hx
    rcases List.mem_cons.mp hx with rfl | hx
    · exact h1
    · exact ih h2 x hx
def hookX (n : Nat) (fa : List Fa) (fn : List DefD) (ts : List Tab) (xs : List (PySem.W.Frag → Bool)) : PySem.W.Hook where
  α := AlX
  obs := fun s => obsXG n fa fn ts xs s.heap.get?
  val := fun w => (valT fn ts w, xs.map fun _ => true)
  says := fun w h => ∃ K : PySem.W.Frag, K.In h ∧ SaysX fa fn ts xs w K
  of := fun _ _ e => ⟨_, frG_in, congrArg (fun z : AlX => z.1) e, all_true (congrArg (fun z : AlX => z.2) e)⟩
  keeps := fun _ _ _ ⟨K, hK, c⟩ k => ⟨K, PySem.W.Frag.In.keeps hK k, c⟩
theorem obsXG_eq {n : Nat} {fa : List Fa} {fn : List DefD} {ts : List Tab} {xs : List (PySem.W.Frag → Bool)} {g : Addr → Option Obj} {s : Shared} (h : ∀ a, g a = s.heap.get? a) : obsXG n fa fn ts xs g = (hookX n fa fn ts xs).obs s := by
  have e : g = s.heap.get? := funext h
  rw [e] <;> rfl
end Pz

set_option Elab.async false
set_option linter.all false
set_option maxRecDepth 100000
set_option maxHeartbeats 0
namespace K50
open PySem PySem.Spec PyProof.Rows L2 Pz
def dd (x : Str) (st : Stmt) : He.DefD := ⟨(x, none), x, x, defArgs st, defBody st, defScope st, [], []⟩
def fn : List He.DefD := [dd "sort_text" (top 2), dd "word_text" (top 3), dd "_law_box" (top 5), dd "_law_take" (top 6), dd "_law_same" (top 7), dd "_law_names" (top 8), dd "_law_data_sort" (top 9), dd "_law_constant" (top 10), dd "_law_leaf" (top 11), dd "_law_naming" (top 12), dd "_law_word" (top 13), dd "_law_inner" (top 14), dd "_law_size" (top 15), dd "_law_some_word" (top 16), dd "_law_word_names" (top 17), dd "_law_sort_text" (top 18), dd "_law_word_text" (top 19), dd "_law_any_sort" (top 20), dd "law" (top 21)]
def fa : List He.Fa := [.glo "sort_text", .glo "word_text", .glo "_law_box", .glo "_law_take", .glo "_law_same", .glo "_law_names", .glo "_law_data_sort", .glo "_law_constant", .glo "_law_leaf", .glo "_law_naming", .glo "_law_word", .glo "_law_inner", .glo "_law_size", .glo "_law_some_word", .glo "_law_word_names", .glo "_law_sort_text", .glo "_law_word_text", .glo "_law_any_sort", .glo "law", .glo "SIGNS", .free "len", .free "all", .free "any", .free "range", .free "list", .free "tuple", .free "isinstance", .free "bool", .free "int", .free "str", .free "max", .free "min", .free "sum", .free "sorted", .free "dict", .free "repr", .free "type", .free "zip", .free "enumerate", .free "set", .free "abs", .free "reversed"]
def ts : List He.Tab := [(fun K => He.ga K "SIGNS", ["plus", "times", "below", "pair", "put", "join", "call"])]
def xs : List (PySem.W.Frag → Bool) := [fun K => He.valsB K (He.ga K "SIGNS") [("plus", .str " + "), ("times", .str " * "), ("below", .str " < "), ("pair", .str ", "), ("put", .str " : "), ("join", .str " ++ "), ("call", .str " ")]]
abbrev R : PySem.W.OpenRow := PySem.W.OpenLaw.row PySem.Challenge.rw_tipmeet_k50_words_written
abbrev hk : PySem.W.Hook := hookX 4 fa fn ts xs
def ob (s : PySem.W.SharedT) : AlX := obsXG 4 fa fn ts xs (HandSHeadRun.getT s)
theorem ob_eq (s : PySem.W.SharedT) : ob s = hk.obs s.abs := obsXG_eq (HandSHeadRun.getT_eq s)
def loose : List Str := ["__name__", "SIGNS", "sort_text", "word_text", "_law_box", "_law_take", "_law_same", "_law_names", "_law_data_sort", "_law_constant", "_law_leaf", "_law_naming", "_law_word", "_law_inner", "_law_size", "_law_some_word", "_law_word_names", "_law_sort_text", "_law_word_text", "_law_any_sort"]
theorem run (w : World) : HandSHeadRun.RunEq R (PySem.W.view R.prog [21]) hk ob 2000 loose w := by
  refine PySem.W.byRow2 "special-get-raises" (P := fun w => HandSHeadRun.RunEq R (PySem.W.view R.prog [21]) hk ob 2000 loose w) (fun w => ?_) (fun w => ?_) w
  · intro os
    kernel_rfl
  · intro os
    kernel_rfl
theorem facts {P : Program} {w : World} {K : PySem.W.Frag} {h : Heap} {mg : Str → Option Value} {f : Addr} (X : K.In h) (G : h.Ns mainGlobals mg) (hfa : mg ("law" : Str) = some (.ref f)) (cc : SaysX fa fn ts xs w K) :
    ∃ fd : FuncData, (∀ (s : Shared) (v : Value), BindsTo s fd ⟨[v], []⟩ [("_law_script", v)]) ∧ ∀ base : Heap, K.In base → base.Ns mainGlobals mg → FnOk P w K mg base CX0 18 f fd ["_law_script"] (spP K pLaw) := by
  have c := cc.1.d
  obtain ⟨fd0, F0⟩ := c.def_ 0 (d := dd "sort_text" (top 2)) rfl
  obtain ⟨fd1, F1⟩ := c.def_ 1 (d := dd "word_text" (top 3)) rfl
  obtain ⟨fd2, F2⟩ := c.def_ 2 (d := dd "_law_box" (top 5)) rfl
  obtain ⟨fd3, F3⟩ := c.def_ 3 (d := dd "_law_take" (top 6)) rfl
  obtain ⟨fd4, F4⟩ := c.def_ 4 (d := dd "_law_same" (top 7)) rfl
  obtain ⟨fd5, F5⟩ := c.def_ 5 (d := dd "_law_names" (top 8)) rfl
  obtain ⟨fd6, F6⟩ := c.def_ 6 (d := dd "_law_data_sort" (top 9)) rfl
  obtain ⟨fd7, F7⟩ := c.def_ 7 (d := dd "_law_constant" (top 10)) rfl
  obtain ⟨fd8, F8⟩ := c.def_ 8 (d := dd "_law_leaf" (top 11)) rfl
  obtain ⟨fd9, F9⟩ := c.def_ 9 (d := dd "_law_naming" (top 12)) rfl
  obtain ⟨fd10, F10⟩ := c.def_ 10 (d := dd "_law_word" (top 13)) rfl
  obtain ⟨fd11, F11⟩ := c.def_ 11 (d := dd "_law_inner" (top 14)) rfl
  obtain ⟨fd12, F12⟩ := c.def_ 12 (d := dd "_law_size" (top 15)) rfl
  obtain ⟨fd13, F13⟩ := c.def_ 13 (d := dd "_law_some_word" (top 16)) rfl
  obtain ⟨fd14, F14⟩ := c.def_ 14 (d := dd "_law_word_names" (top 17)) rfl
  obtain ⟨fd15, F15⟩ := c.def_ 15 (d := dd "_law_sort_text" (top 18)) rfl
  obtain ⟨fd16, F16⟩ := c.def_ 16 (d := dd "_law_word_text" (top 19)) rfl
  obtain ⟨fd17, F17⟩ := c.def_ 17 (d := dd "_law_any_sort" (top 20)) rfl
  obtain ⟨fd18, F18⟩ := c.def_ 18 (d := dd "law" (top 21)) rfl
  have g0 := He.glo_ok X G (c.fact 0 (f := .glo "sort_text") rfl)
  have g1 := He.glo_ok X G (c.fact 1 (f := .glo "word_text") rfl)
  have g2 := He.glo_ok X G (c.fact 2 (f := .glo "_law_box") rfl)
  have g3 := He.glo_ok X G (c.fact 3 (f := .glo "_law_take") rfl)
  have g4 := He.glo_ok X G (c.fact 4 (f := .glo "_law_same") rfl)
  have g5 := He.glo_ok X G (c.fact 5 (f := .glo "_law_names") rfl)
  have g6 := He.glo_ok X G (c.fact 6 (f := .glo "_law_data_sort") rfl)
  have g7 := He.glo_ok X G (c.fact 7 (f := .glo "_law_constant") rfl)
  have g8 := He.glo_ok X G (c.fact 8 (f := .glo "_law_leaf") rfl)
  have g9 := He.glo_ok X G (c.fact 9 (f := .glo "_law_naming") rfl)
  have g10 := He.glo_ok X G (c.fact 10 (f := .glo "_law_word") rfl)
  have g11 := He.glo_ok X G (c.fact 11 (f := .glo "_law_inner") rfl)
  have g12 := He.glo_ok X G (c.fact 12 (f := .glo "_law_size") rfl)
  have g13 := He.glo_ok X G (c.fact 13 (f := .glo "_law_some_word") rfl)
  have g14 := He.glo_ok X G (c.fact 14 (f := .glo "_law_word_names") rfl)
  have g15 := He.glo_ok X G (c.fact 15 (f := .glo "_law_sort_text") rfl)
  have g16 := He.glo_ok X G (c.fact 16 (f := .glo "_law_word_text") rfl)
  have g17 := He.glo_ok X G (c.fact 17 (f := .glo "_law_any_sort") rfl)
  have gt0 := He.glo_ok X G (c.fact 19 (f := .glo "SIGNS") rfl)
  obtain ⟨es0, nn0, hT0⟩ := cc.1.tab 0 (t := (fun K => He.ga K "SIGNS", ["plus", "times", "below", "pair", "put", "join", "call"]))
  have e := hfa.symm.trans (He.glo_ok X G (c.fact 18 (f := .glo "law") rfl))
  cases e
  have T : Txt mg := ⟨He.free_ok X G (c.fact 20 (f := .free "len") rfl), He.free_ok X G (c.fact 21 (f := .free "all") rfl), He.free_ok X G (c.fact 22 (f := .free "any") rfl), He.free_ok X G (c.fact 23 (f := .free "range") rfl), He.free_ok X G (c.fact 24 (f := .free "list") rfl), He.free_ok X G (c.fact 25 (f := .free "tuple") rfl), He.free_ok X G (c.fact 26 (f := .free "isinstance") rfl), He.free_ok X G (c.fact 27 (f := .free "bool") rfl), He.free_ok X G (c.fact 28 (f := .free "int") rfl), He.free_ok X G (c.fact 29 (f := .free "str") rfl), He.free_ok X G (c.fact 30 (f := .free "max") rfl), He.free_ok X G (c.fact 31 (f := .free "min") rfl), He.free_ok X G (c.fact 32 (f := .free "sum") rfl), He.free_ok X G (c.fact 33 (f := .free "sorted") rfl), He.free_ok X G (c.fact 34 (f := .free "dict") rfl), He.free_ok X G (c.fact 35 (f := .free "repr") rfl), He.free_ok X G (c.fact 36 (f := .free "type") rfl), He.free_ok X G (c.fact 37 (f := .free "zip") rfl), He.free_ok X G (c.fact 38 (f := .free "enumerate") rfl), He.free_ok X G (c.fact 39 (f := .free "set") rfl), He.free_ok X G (c.fact 40 (f := .free "abs") rfl), He.free_ok X G (c.fact 41 (f := .free "reversed") rfl)⟩
  have b0 : L2.Binds K fd0 ["sort"] [] := F0.bindsN fun _ _ _ _ _ _ us hl => match us, hl with | [_], _ => rfl
  have b1 : L2.Binds K fd1 ["word"] [] := F1.bindsN fun _ _ _ _ _ _ us hl => match us, hl with | [_], _ => rfl
  have b2 : L2.Binds K fd2 ["_law_script"] [] := F2.bindsN fun _ _ _ _ _ _ us hl => match us, hl with | [_], _ => rfl
  have b3 : L2.Binds K fd3 ["_law_box_here", "_law_many"] [] := F3.bindsN fun _ _ _ _ _ _ us hl => match us, hl with | [_, _], _ => rfl
  have b4 : L2.Binds K fd4 ["_law_found", "_law_due"] [] := F4.bindsN fun _ _ _ _ _ _ us hl => match us, hl with | [_, _], _ => rfl
  have b5 : L2.Binds K fd5 ["_law_box_here", "_law_many"] [] := F5.bindsN fun _ _ _ _ _ _ us hl => match us, hl with | [_, _], _ => rfl
  have b6 : L2.Binds K fd6 ["_law_box_here", "_law_deep"] [] := F6.bindsN fun _ _ _ _ _ _ us hl => match us, hl with | [_, _], _ => rfl
  have b7 : L2.Binds K fd7 ["_law_box_here", "_law_sort"] [] := F7.bindsN fun _ _ _ _ _ _ us hl => match us, hl with | [_, _], _ => rfl
  have b8 : L2.Binds K fd8 ["_law_box_here", "_law_scope", "_law_sort"] [] := F8.bindsN fun _ _ _ _ _ _ us hl => match us, hl with | [_, _, _], _ => rfl
  have b9 : L2.Binds K fd9 ["_law_box_here", "_law_names_here", "_law_scope", "_law_sort", "_law_room"] [] := F9.bindsN fun _ _ _ _ _ _ us hl => match us, hl with | [_, _, _, _, _], _ => rfl
  have b10 : L2.Binds K fd10 ["_law_box_here", "_law_names_here", "_law_scope", "_law_sort", "_law_room"] [] := F10.bindsN fun _ _ _ _ _ _ us hl => match us, hl with | [_, _, _, _, _], _ => rfl
  have b11 : L2.Binds K fd11 ["_law_word_here"] [] := F11.bindsN fun _ _ _ _ _ _ us hl => match us, hl with | [_], _ => rfl
  have b12 : L2.Binds K fd12 ["_law_word_here"] [] := F12.bindsN fun _ _ _ _ _ _ us hl => match us, hl with | [_], _ => rfl
  have b13 : L2.Binds K fd13 ["_law_box_here", "_law_names_here", "_law_sort", "_law_room"] [] := F13.bindsN fun _ _ _ _ _ _ us hl => match us, hl with | [_, _, _, _], _ => rfl
  have b14 : L2.Binds K fd14 ["_law_box_here"] [] := F14.bindsN fun _ _ _ _ _ _ us hl => match us, hl with | [_], _ => rfl
  have b15 : L2.Binds K fd15 ["_law_sort"] [] := F15.bindsN fun _ _ _ _ _ _ us hl => match us, hl with | [_], _ => rfl
  have b16 : L2.Binds K fd16 ["_law_word_here"] [] := F16.bindsN fun _ _ _ _ _ _ us hl => match us, hl with | [_], _ => rfl
  have b17 : L2.Binds K fd17 ["_law_box_here", "_law_deep"] [] := F17.bindsN fun _ _ _ _ _ _ us hl => match us, hl with | [_, _], _ => rfl
  have b := FunD.bindsA (ps := ["_law_script"]) F18 fun _ _ _ _ _ _ us hl => match us, hl with | [_], _ => rfl
  refine ⟨fd18, fun s v => b s [v] rfl, fun base _ _ => ?_⟩
  have hv := cc.2 _ (List.mem_singleton.mpr rfl)
  have hsv : ∀ z y, signs.lookup z = some y → ∃ u, PySem.W.nsIn K (He.ga K "SIGNS") z = some (some u) ∧ RelV (.str y) u := by
    intro z y hy
    have hm := lookup_mem hy
    have := He.valsB_ok (q := (z, He.Dv.str y)) hv (by
      have := List.mem_map_of_mem (f := fun q : Str × Str => (q.1, He.Dv.str q.2)) hm
      exact this)
    exact this
  have Ct : Callee P w K mg base 1 "_law_take" ["_law_box_here", "_law_many"] pTake := ⟨_, _, ok_take F3 T, g3, F3.kp, b3⟩
  have Cn : Callee P w K mg base 2 "_law_names" ["_law_box_here", "_law_many"] pNm := ⟨_, _, ok_names F5 T Ct, g5, F5.kp, b5⟩
  have hst : ∀ n, Callee P w K mg base n "sort_text" ["sort"] (pST n) := fun n => ⟨_, _, ok_st F0 T g0 b0 n, g0, F0.kp, b0⟩
  have hls : ∀ n, Callee P w K mg base n "_law_sort_text" ["_law_sort"] (pST n) := fun n => ⟨_, _, ok_ls F15 T g15 b15 n, g15, F15.kp, b15⟩
  have Cwt : Callee P w K mg base 16 "word_text" ["word"] (pWT 16) := ⟨_, _, ok_wt F1 T g1 b1 hT0 gt0 hsv hst 16, g1, F1.kp, b1⟩
  have Cin : Callee P w K mg base 1 "_law_inner" ["_law_word_here"] pIn := ⟨_, _, ok_in F11 T, g11, F11.kp, b11⟩
  have Clw : Callee P w K mg base 17 "_law_word_text" ["_law_word_here"] (pWT 16) := ⟨_, _, ok_lw F16 T g16 b16 Cin hls 16, g16, F16.kp, b16⟩
  have hds : ∀ n, Callee P w K mg base (n + 1) "_law_data_sort" ["_law_box_here", "_law_deep"] (pDS n) := fun n => ⟨_, _, ok_ds F6 T g6 b6 Ct n, g6, F6.kp, b6⟩
  have Cas : Callee P w K mg base 7 "_law_any_sort" ["_law_box_here", "_law_deep"] (pDS 6) := ⟨_, _, ok_as F17 T g17 b17 Ct hds 6, g17, F17.kp, b17⟩
  have Cco : Callee P w K mg base 4 "_law_constant" ["_law_box_here", "_law_sort"] (pCo 3) := ⟨_, _, ok_co F7 T g7 b7 Ct 3, g7, F7.kp, b7⟩
  have Cle : Callee P w K mg base 5 "_law_leaf" ["_law_box_here", "_law_scope", "_law_sort"] pLe := ⟨_, _, ok_le F8 T Ct Cco, g8, F8.kp, b8⟩
  have Cwo : Callee P w K mg base 12 "_law_word" ["_law_box_here", "_law_names_here", "_law_scope", "_law_sort", "_law_room"] pWoA := ⟨_, _, ok_woA fun r => ok_wo F10 T g10 b10 Ct (hds 2) Cle F9 g9 b9 r, g10, F10.kp, b10⟩
  have Csi : Callee P w K mg base 2 "_law_size" ["_law_word_here"] pSi := ⟨_, _, ok_si F12 T Cin, g12, F12.kp, b12⟩
  have Csw : Callee P w K mg base 13 "_law_some_word" ["_law_box_here", "_law_names_here", "_law_sort", "_law_room"] pSw := ⟨_, _, ok_sw F13 T Csi Cco Cwo, g13, F13.kp, b13⟩
  have Cwn : Callee P w K mg base 3 "_law_word_names" ["_law_box_here"] pWn := ⟨_, _, ok_wn F14 T Cn, g14, F14.kp, b14⟩
  exact ok_law F18 T Ct ⟨_, _, ok_box F2 T, g2, F2.kp, b2⟩ ⟨_, _, ok_same F4 T g4 b4 2, g4, F4.kp, b4⟩ Cwn Csw (hds 5) Cas Csi Cwt Clw (hst 6) (hls 6)
theorem law_sp {K : PySem.W.Frag} {H : Hp} {a : Addr} {ns : List Int} (hl : ns.length ≤ 63) (hS : SqL K H a (ns.map V.int)) : spP K pLaw [.ref a] H (fun v _ => v = .bl true) fun _ _ _ => False := by
  refine ⟨fun _ => False, fun _ => none, [.fro (ns.map .int)], fun d _ => d = .bl true, ⟨fun a c e => (by cases e), fun a h => h.elim⟩, ⟨_, _, rfl, ⟨a, _, rfl, ?_, RepDs.scal D.int V.int (fun _ => rfl) ns⟩, rfl⟩, ⟨ns, rfl, hl, fun _ => rfl⟩, ?_⟩
  · rcases hS with h | h
    · exact .inl ⟨rfl, fun z => z, h⟩
    · exact .inr h
  · rintro v H' d S' _ _ r rfl
    exact r
end K50
open PySem PySem.W PySem.Calls PyProof.Rows
theorem PySem.Challenge.cw_tipmeet_k50_words_written_holds : PySem.Challenge.rw_tipmeet_k50_words_written.Holds := by
  w_on; o_law
  refine HandSHeadRun.head_any (r := OpenLaw.row PySem.Challenge.rw_tipmeet_k50_words_written) (q := view (OpenLaw.row PySem.Challenge.rw_tipmeet_k50_words_written).prog [21]) (H := K50.hk) (ob := K50.ob) (M := 2000) (loose := K50.loose) (d := HandSHeadRun.topDef (OpenLaw.row PySem.Challenge.rw_tipmeet_k50_words_written).prog 21) (kwd := []) K50.ob_eq
    (by kernel_rfl) (fun s => by kernel_rfl) K50.run (by kernel_rfl) (by kernel_rfl) (by kernel_rfl) (by rfl) (by first | assumption | decide +kernel) (by decide +kernel) ⟨rfl, rfl, rfl, rfl, rfl, by decide +kernel⟩ ?hw ?hc
  case hw => w_witness2
  case hc =>
    refine L2.walk_ofE (l := PySem.Challenge.rw_tipmeet_k50_words_written) (n := 63) (k := 18) (x := "_law_script") (CX := L2.CX0) rfl (by decide) (by kernel_rfl) ⟨rfl, by decide, by decide⟩ ?F (fun _ _ _ _ z => z)
    intro w mg fa h Y G hmg0
    obtain ⟨K, KX, c⟩ := Y
    have hmg : mg ("law" : PySem.Str) = some (.ref fa) := by
      have e : (HandSHeadRun.topDef (OpenLaw.row PySem.Challenge.rw_tipmeet_k50_words_written).prog 21).name = ("law" : PySem.Str) := by kernel_rfl
      rw [← e]
      exact hmg0
    obtain ⟨fd, hb, hF⟩ := K50.facts (P := (PySem.Challenge.rw_tipmeet_k50_words_written).prog) (w := w) KX G hmg c
    exact ⟨K, fd, Pz.spP K K50.pLaw, KX, hb, fun H a ns hl _ hS => K50.law_sp hl hS, hF⟩
