import PyProof.Rows.All
import Wide.All
import OpenK.AllK
import Wide.FinOn
import HandS.ForMost
import HandS.IsInst
import HandS.Defaults
import HandS.HeadHook2
import HandS.Head0
import HandS.Head1
import HandS.Head2
import HandS.HeadEnd
import HandS.HeadHook1
import PySem.Challenge.RW_tipmeet_k01_names_judged
set_option Elab.async false
set_option linter.all false
set_option maxRecDepth 100000
set_option maxHeartbeats 4000000
/-! The pure layer: code over data without the heap. D: data; Store: the mutable cells; w..: what must hold ahead (over data alone). -/
namespace Pz
open PySem PySem.Spec PyProof.Rows L2

inductive D where
  | non | bl (b : Bool) | int (i : Int) | str (x : Str) | ty (n : String) | ref (a : Addr) | cel (a : Addr)
  | lst (xs : List D) | tup (xs : List D)
  | ins (C : Addr) (ks : List Str) (xs : List D)
  | dT (ks : List (List Key)) (xs : List D)
  | dK (ks : List Key) (xs : List D)

inductive Cell where
  | lst (xs : List D)
  | ins (C : Addr) (ks : List Str) (xs : List D)
  | dT (ks : List (List Key)) (xs : List D)
  | dK (ks : List Key) (xs : List D)

abbrev Store := Addr → Option Cell
def sset (S : Store) (a : Addr) (c : Cell) : Store := fun b => if b = a then some c else S b
def sdel (S : Store) (a : Addr) : Store := fun b => if b = a then none else S b
theorem sset_same {S : Store} {a : Addr} {c : Cell} : sset S a c a = some c := by unfold sset; rw [if_pos rfl]
theorem sset_ne {S : Store} {a b : Addr} {c : Cell} (h : b ≠ a) : sset S a c b = S b := by unfold sset; rw [if_neg h]
theorem sset_sset {S : Store} {a : Addr} {c c' : Cell} : sset (sset S a c) a c' = sset S a c' := by
  funext b; unfold sset; split <;> rfl
theorem sdel_same {S : Store} {a : Addr} : sdel S a a = none := by unfold sdel; rw [if_pos rfl]
theorem sdel_ne {S : Store} {a b : Addr} (h : b ≠ a) : sdel S a b = S b := by unfold sdel; rw [if_neg h]
theorem sdel_sset {S : Store} {a : Addr} {c : Cell} (h : S a = none) : sdel (sset S a c) a = S := by
  funext b; unfold sdel sset; split
  · rename_i e; rw [e, h]
  · rfl

def KL (K : PySem.W.Frag) (a : Addr) (xs : List V) : Prop :=
  ∃ (o : Obj) (its : Array Value) (n : Nat), K.lookup a = some o ∧ o.cls = .type "list" ∧ o.dict = none ∧ o.data = .seq its n ∧ its.size ≤ sizeLine ∧ Vals xs its.toList
def KT (K : PySem.W.Frag) (a : Addr) (xs : List V) : Prop :=
  ∃ (o : Obj) (its : Array Value) (n : Nat), K.lookup a = some o ∧ o.cls = .type "tuple" ∧ o.data = .seq its n ∧ its.size ≤ sizeLine ∧ Vals xs its.toList

section
variable (K : PySem.W.Frag) (F : Addr → Prop) (S : Store) (H : Hp)
def LAt (a : Addr) (vs : List V) : Prop := (S a = none ∧ ¬ F a ∧ Rd H a (.lst vs)) ∨ KL K a vs
def TAt (a : Addr) (vs : List V) : Prop := (S a = none ∧ ¬ F a ∧ Rd H a (.tup vs)) ∨ KT K a vs
mutual
def RepD : D → V → Prop
  | .non, v => v = .non
  | .bl b, v => v = .bl b
  | .int i, v => v = .int i
  | .str x, v => v = .str x
  | .ty n, v => v = .ty n
  | .ref a, v => v = .ref a
  | .cel a, v => v = .ref a
  | .lst xs, v => ∃ a vs, v = .ref a ∧ LAt K F S H a vs ∧ RepDs xs vs
  | .tup xs, v => ∃ a vs, v = .ref a ∧ TAt K F S H a vs ∧ RepDs xs vs
  | .ins C ks xs, v => ∃ a dx vs, v = .ref a ∧ (S a = none ∧ ¬ F a ∧ H a = some (.ins C dx (ks.zip vs))) ∧ ks.length = vs.length ∧ RepDs xs vs
  | .dT ks xs, v => ∃ a vs, v = .ref a ∧ (S a = none ∧ ¬ F a ∧ H a = some (.dT (ks.zip vs))) ∧ ks.length = vs.length ∧ RepDs xs vs
  | .dK ks xs, v => ∃ a vs, v = .ref a ∧ (S a = none ∧ ¬ F a ∧ H a = some (.dK (ks.zip vs))) ∧ ks.length = vs.length ∧ RepDs xs vs
def RepDs : List D → List V → Prop
  | [], vs => vs = []
  | x :: xs, vs => ∃ v r, vs = v :: r ∧ RepD x v ∧ RepDs xs r
end
def RepC (a : Addr) : Cell → Prop
  | .lst xs => ∃ vs, H a = some (.lst vs) ∧ RepDs K F S H xs vs
  | .ins C ks xs => ∃ dx vs, H a = some (.ins C dx (ks.zip vs)) ∧ ks.length = vs.length ∧ RepDs K F S H xs vs
  | .dT ks xs => ∃ vs, H a = some (.dT (ks.zip vs)) ∧ ks.length = vs.length ∧ RepDs K F S H xs vs
  | .dK ks xs => ∃ vs, H a = some (.dK (ks.zip vs)) ∧ ks.length = vs.length ∧ RepDs K F S H xs vs
structure Ok : Prop where
  cells : ∀ a c, S a = some c → ¬ F a ∧ RepC K F S H a c
  hid : ∀ a, F a → (∃ o, H a = some o) ∧ S a = none
end

/-- what is no cell stands as it stood -/
def Fr (S : Store) (H : Hp) (S' : Store) (H' : Hp) : Prop := ∀ a o, H a = some o → S a = none → H' a = some o ∧ S' a = none
theorem Fr.refl (S : Store) (H : Hp) : Fr S H S H := fun _ _ h1 h2 => ⟨h1, h2⟩
theorem Fr.trans {S S1 S2 : Store} {H H1 H2 : Hp} (f : Fr S H S1 H1) (g : Fr S1 H1 S2 H2) : Fr S H S2 H2 := fun a o h1 h2 => let ⟨x, y⟩ := f a o h1 h2; g a o x y
def Mv (F : Addr → Prop) (S : Store) (H : Hp) (F' : Addr → Prop) (S' : Store) (H' : Hp) : Prop := ∀ a o, H a = some o → S a = none → ¬ F a → H' a = some o ∧ S' a = none ∧ ¬ F' a
theorem Fr.mv {F : Addr → Prop} {S S' : Store} {H H' : Hp} (f : Fr S H S' H') : Mv F S H F S' H' := fun a o h1 h2 h3 => ⟨(f a o h1 h2).1, (f a o h1 h2).2, h3⟩

section
variable {K : PySem.W.Frag} {F F' : Addr → Prop} {S S' : Store} {H H' : Hp}
theorem LAt.mv {a : Addr} {vs : List V} (m : Mv F S H F' S' H') (h : LAt K F S H a vs) : LAt K F' S' H' a vs := by
  rcases h with ⟨h1, h2, h3 | ⟨o, h3⟩⟩ | h
  · obtain ⟨x, y, z⟩ := m a _ h3 h1 h2
    exact .inl ⟨y, z, .inl x⟩
  · obtain ⟨x, y, z⟩ := m a _ h3 h1 h2
    exact .inl ⟨y, z, .inr ⟨o, x⟩⟩
  · exact .inr h
theorem TAt.mv {a : Addr} {vs : List V} (m : Mv F S H F' S' H') (h : TAt K F S H a vs) : TAt K F' S' H' a vs := by
  rcases h with ⟨h1, h2, h3 | ⟨o, h3⟩⟩ | h
  · obtain ⟨x, y, z⟩ := m a _ h3 h1 h2
    exact .inl ⟨y, z, .inl x⟩
  · obtain ⟨x, y, z⟩ := m a _ h3 h1 h2
    exact .inl ⟨y, z, .inr ⟨o, x⟩⟩
  · exact .inr h
theorem LAt.sq {a : Addr} {vs : List V} (h : LAt K F S H a vs) : SqL K H a vs := by
  rcases h with ⟨_, _, h⟩ | h
  · exact .inl h
  · exact .inr h
theorem TAt.sq {a : Addr} {vs : List V} (h : TAt K F S H a vs) : SqT K H a vs := by
  rcases h with ⟨_, _, h⟩ | h
  · exact .inl h
  · exact .inr h
mutual
theorem RepD.mv (m : Mv F S H F' S' H') : ∀ (d : D) (v : V), RepD K F S H d v → RepD K F' S' H' d v
  | .non, _, h => h
  | .bl _, _, h => h
  | .int _, _, h => h
  | .str _, _, h => h
  | .ty _, _, h => h
  | .ref _, _, h => h
  | .cel _, _, h => h
  | .lst xs, _, ⟨a, vs, e, h1, h2⟩ => ⟨a, vs, e, h1.mv m, RepDs.mv m xs vs h2⟩
  | .tup xs, _, ⟨a, vs, e, h1, h2⟩ => ⟨a, vs, e, h1.mv m, RepDs.mv m xs vs h2⟩
  | .ins C ks xs, _, ⟨a, dx, vs, e, ⟨h1, h2, h3⟩, h4, h5⟩ => let ⟨x, y, z⟩ := m a _ h3 h1 h2; ⟨a, dx, vs, e, ⟨y, z, x⟩, h4, RepDs.mv m xs vs h5⟩
  | .dT ks xs, _, ⟨a, vs, e, ⟨h1, h2, h3⟩, h4, h5⟩ => let ⟨x, y, z⟩ := m a _ h3 h1 h2; ⟨a, vs, e, ⟨y, z, x⟩, h4, RepDs.mv m xs vs h5⟩
  | .dK ks xs, _, ⟨a, vs, e, ⟨h1, h2, h3⟩, h4, h5⟩ => let ⟨x, y, z⟩ := m a _ h3 h1 h2; ⟨a, vs, e, ⟨y, z, x⟩, h4, RepDs.mv m xs vs h5⟩
theorem RepDs.mv (m : Mv F S H F' S' H') : ∀ (xs : List D) (vs : List V), RepDs K F S H xs vs → RepDs K F' S' H' xs vs
  | [], _, h => h
  | x :: xs, _, ⟨v, r, e, h1, h2⟩ => ⟨v, r, e, RepD.mv m x v h1, RepDs.mv m xs r h2⟩
end
theorem RepDs.length : ∀ {xs : List D} {vs : List V}, RepDs K F S H xs vs → xs.length = vs.length
  | [], _, h => by cases h; rfl
  | x :: xs, _, ⟨v, r, e, _, h2⟩ => by rw [e, List.length_cons, List.length_cons, RepDs.length h2]
theorem RepDs.get : ∀ {xs : List D} {vs : List V} {i : Nat} {d : D}, RepDs K F S H xs vs → xs[i]? = some d → ∃ v, vs[i]? = some v ∧ RepD K F S H d v
  | [], _, _, _, _, e => by simp at e
  | x :: xs, _, 0, d, ⟨v, r, e, h1, _⟩, q => by
    have : x = d := by simpa using q
    subst this
    exact ⟨v, by rw [e]; rfl, h1⟩
  | x :: xs, _, i + 1, d, ⟨v, r, e, _, h2⟩, q => by
    obtain ⟨u, h3, h4⟩ := RepDs.get (i := i) h2 (by simpa using q)
    exact ⟨u, by rw [e]; simpa using h3, h4⟩
theorem RepDs.getV : ∀ {xs : List D} {vs : List V} {i : Nat} {v : V}, RepDs K F S H xs vs → vs[i]? = some v → ∃ d, xs[i]? = some d ∧ RepD K F S H d v
  | [], _, _, _, h, e => by cases h; simp at e
  | x :: xs, _, 0, w, ⟨v, r, e, h1, _⟩, q => by
    subst e
    have : v = w := by simpa using q
    subst this
    exact ⟨x, rfl, h1⟩
  | x :: xs, _, i + 1, w, ⟨v, r, e, _, h2⟩, q => by
    subst e
    obtain ⟨u, h3, h4⟩ := RepDs.getV (i := i) h2 (by simpa using q)
    exact ⟨u, by simpa using h3, h4⟩
theorem RepDs.append : ∀ {xs ys : List D} {vs ws : List V}, RepDs K F S H xs vs → RepDs K F S H ys ws → RepDs K F S H (xs ++ ys) (vs ++ ws)
  | [], _, _, _, h, h' => by cases h; exact h'
  | x :: xs, _, _, _, ⟨v, r, e, h1, h2⟩, h' => by subst e; exact ⟨v, r ++ _, rfl, h1, RepDs.append h2 h'⟩
theorem RepDs.one {x : D} {v : V} (h : RepD K F S H x v) : RepDs K F S H [x] [v] := ⟨v, [], rfl, h, rfl⟩
theorem RepDs.take : ∀ {xs : List D} {vs : List V} (n : Nat), RepDs K F S H xs vs → RepDs K F S H (xs.take n) (vs.take n)
  | _, _, 0, _ => rfl
  | [], _, n + 1, h => by cases h; rfl
  | x :: xs, _, n + 1, ⟨v, r, e, h1, h2⟩ => by subst e; exact ⟨v, r.take n, rfl, h1, RepDs.take n h2⟩
theorem RepDs.drop : ∀ {xs : List D} {vs : List V} (n : Nat), RepDs K F S H xs vs → RepDs K F S H (xs.drop n) (vs.drop n)
  | _, _, 0, h => h
  | [], _, n + 1, h => by cases h; rfl
  | x :: xs, _, n + 1, ⟨v, r, e, h1, h2⟩ => by subst e; exact RepDs.drop n h2
theorem RepDs.set : ∀ {xs : List D} {vs : List V} {d : D} {v : V} (n : Nat), RepDs K F S H xs vs → RepD K F S H d v → RepDs K F S H (xs.set n d) (vs.set n v)
  | [], _, _, _, _, h, _ => by cases h; rfl
  | x :: xs, _, _, _, 0, ⟨v, r, e, h1, h2⟩, h => by subst e; exact ⟨_, r, rfl, h, h2⟩
  | x :: xs, _, _, _, n + 1, ⟨v, r, e, h1, h2⟩, h => by subst e; exact ⟨v, _, rfl, h1, RepDs.set n h2 h⟩
theorem RepDs.scal (f : Int → D) (g : Int → V) (h : ∀ i, RepD K F S H (f i) (g i)) : ∀ ns : List Int, RepDs K F S H (ns.map f) (ns.map g)
  | [] => rfl
  | n :: ns => ⟨g n, ns.map g, rfl, h n, RepDs.scal f g h ns⟩
theorem RepDs.ints : ∀ {ns : List Int} {vs : List V}, RepDs K F S H (ns.map D.int) vs → vs = ns.map V.int
  | [], _, h => h
  | n :: ns, _, ⟨v, r, e, h1, h2⟩ => by
    rw [e, RepDs.ints h2, show v = V.int n from h1]; rfl
theorem RepDs.strs : ∀ {ns : List Str} {vs : List V}, RepDs K F S H (ns.map D.str) vs → vs = ns.map V.str
  | [], _, h => h
  | n :: ns, _, ⟨v, r, e, h1, h2⟩ => by
    rw [e, RepDs.strs h2, show v = V.str n from h1]; rfl
theorem RepDs.bls : ∀ {ns : List Bool} {vs : List V}, RepDs K F S H (ns.map D.bl) vs → vs = ns.map V.bl
  | [], _, h => h
  | n :: ns, _, ⟨v, r, e, h1, h2⟩ => by
    rw [e, RepDs.bls h2, show v = V.bl n from h1]; rfl
theorem RepC.at {a : Addr} {c : Cell} (h : RepC K F S H a c) : ∃ o, H a = some o := by
  cases c with
  | lst xs => obtain ⟨vs, e, _⟩ := h; exact ⟨_, e⟩
  | ins C ks xs => obtain ⟨dx, vs, e, _⟩ := h; exact ⟨_, e⟩
  | dT ks xs => obtain ⟨vs, e, _⟩ := h; exact ⟨_, e⟩
  | dK ks xs => obtain ⟨vs, e, _⟩ := h; exact ⟨_, e⟩
theorem Ok.free (ok : Ok K F S H) {p : Addr} (h : H p = none) : S p = none ∧ ¬ F p := by
  refine ⟨?_, fun z => ?_⟩
  · cases e : S p with
    | none => rfl
    | some c =>
      obtain ⟨o, q⟩ := (ok.cells p c e).2.at
      rw [h] at q; cases q
  · obtain ⟨⟨o, q⟩, _⟩ := ok.hid p z
    rw [h] at q; cases q
/-- a new object that is no cell -/
theorem Fr.new {p : Addr} {o : HO} (ok : Ok K F S H) (h : H p = none) : Fr S H S (upd H p o) := fun a u e1 e2 => ⟨by rw [upd_ne (ne_of_none e1 h)]; exact e1, e2⟩
theorem RepC.mv {a : Addr} {c : Cell} (m : Mv F S H F' S' H') (e : ∀ o, H a = some o → H' a = some o) (h : RepC K F S H a c) : RepC K F' S' H' a c := by
  cases c with
  | lst xs => obtain ⟨vs, q, r⟩ := h; exact ⟨vs, e _ q, RepDs.mv m _ _ r⟩
  | ins C ks xs => obtain ⟨dx, vs, q, l, r⟩ := h; exact ⟨dx, vs, e _ q, l, RepDs.mv m _ _ r⟩
  | dT ks xs => obtain ⟨vs, q, l, r⟩ := h; exact ⟨vs, e _ q, l, RepDs.mv m _ _ r⟩
  | dK ks xs => obtain ⟨vs, q, l, r⟩ := h; exact ⟨vs, e _ q, l, RepDs.mv m _ _ r⟩
theorem Ok.new {p : Addr} {o : HO} (ok : Ok K F S H) (h : H p = none) : Ok K F S (upd H p o) := by
  refine ⟨fun a c e => ?_, fun a ha => ?_⟩
  · obtain ⟨h1, h2⟩ := ok.cells a c e
    exact ⟨h1, h2.mv (Fr.new ok h).mv fun u q => by rw [upd_ne (ne_of_none q h)]; exact q⟩
  · obtain ⟨⟨u, q⟩, e⟩ := ok.hid a ha
    exact ⟨⟨u, by rw [upd_ne (ne_of_none q h)]; exact q⟩, e⟩
/-- a new cell -/
theorem Fr.newC {p : Addr} {o : HO} {c : Cell} (ok : Ok K F S H) (h : H p = none) : Fr S H (sset S p c) (upd H p o) := fun a u e1 e2 => ⟨by rw [upd_ne (ne_of_none e1 h)]; exact e1, by rw [sset_ne (ne_of_none e1 h)]; exact e2⟩
theorem Ok.newC {p : Addr} {o : HO} {c : Cell} (ok : Ok K F S H) (h : H p = none) (hc : RepC K F (sset S p c) (upd H p o) p c) : Ok K F (sset S p c) (upd H p o) := by
  refine ⟨fun a c' e => ?_, fun a ha => ?_⟩
  · by_cases hp : a = p
    · subst hp
      rw [sset_same] at e
      cases e
      exact ⟨(ok.free h).2, hc⟩
    · rw [sset_ne hp] at e
      obtain ⟨h1, h2⟩ := ok.cells a c' e
      exact ⟨h1, h2.mv (Fr.newC ok h).mv fun u q => by rw [upd_ne hp]; exact q⟩
  · obtain ⟨⟨u, q⟩, e⟩ := ok.hid a ha
    exact ⟨⟨u, by rw [upd_ne (ne_of_none q h)]; exact q⟩, by rw [sset_ne (ne_of_none q h)]; exact e⟩
/-- a cell changes -/
theorem Fr.chg {p : Addr} {o : HO} {c c' : Cell} (h : S p = some c) : Fr S H (sset S p c') (upd H p o) := fun a u e1 e2 => by
  have n : a ≠ p := fun z => by subst z; rw [h] at e2; cases e2
  exact ⟨by rw [upd_ne n]; exact e1, by rw [sset_ne n]; exact e2⟩
theorem Ok.chg {p : Addr} {o : HO} {c c' : Cell} (ok : Ok K F S H) (h : S p = some c) (hc : RepC K F (sset S p c') (upd H p o) p c') : Ok K F (sset S p c') (upd H p o) := by
  refine ⟨fun a c1 e => ?_, fun a ha => ?_⟩
  · by_cases hp : a = p
    · subst hp
      rw [sset_same] at e
      cases e
      exact ⟨(ok.cells a c h).1, hc⟩
    · rw [sset_ne hp] at e
      obtain ⟨h1, h2⟩ := ok.cells a c1 e
      exact ⟨h1, h2.mv (Fr.chg h).mv fun u q => by rw [upd_ne hp]; exact q⟩
  · obtain ⟨⟨u, q⟩, e⟩ := ok.hid a ha
    have n : a ≠ p := fun z => by subst z; rw [h] at e; cases e
    exact ⟨⟨u, by rw [upd_ne n]; exact q⟩, by rw [sset_ne n]; exact e⟩
/-- cells forgotten -/
def Sub (S' S : Store) : Prop := ∀ a c, S' a = some c → S a = some c
theorem Sub.refl (S : Store) : Sub S S := fun _ _ h => h
theorem Sub.none {S S' : Store} (s : Sub S' S) {a : Addr} (h : S a = none) : S' a = none := by
  cases e : S' a with
  | none => rfl
  | some c => rw [s a c e] at h; cases h
theorem Sub.mv (s : Sub S' S) : Mv F S H F S' H := fun a o h1 h2 h3 => ⟨h1, s.none h2, h3⟩
theorem Sub.fr (s : Sub S' S) : Fr S H S' H := fun a o h1 h2 => ⟨h1, s.none h2⟩
theorem Sub.ok (s : Sub S' S) (ok : Ok K F S H) : Ok K F S' H := by
  refine ⟨fun a c e => ?_, fun a ha => ?_⟩
  · obtain ⟨h1, h2⟩ := ok.cells a c (s a c e)
    exact ⟨h1, h2.mv s.mv fun _ q => q⟩
  · obtain ⟨q, e⟩ := ok.hid a ha
    exact ⟨q, s.none e⟩
theorem sub_del (S : Store) (a : Addr) : Sub (sdel S a) S := fun b c e => by
  by_cases h : b = a
  · subst h; rw [sdel_same] at e; cases e
  · rw [sdel_ne h] at e; exact e
theorem sub_new {a : Addr} {c : Cell} (h : S a = Option.none) : Sub S (sset S a c) := fun b c' e => by
  have n : b ≠ a := fun z => by subst z; rw [h] at e; cases e
  rw [sset_ne n]; exact e
theorem Sub.trans {S1 S2 S3 : Store} (a : Sub S1 S2) (b : Sub S2 S3) : Sub S1 S3 := fun x c h => b x c (a x c h)
end
end Pz

set_option Elab.async false
set_option linter.all false
set_option maxRecDepth 100000
set_option maxHeartbeats 4000000
namespace Pz
open PySem PySem.Spec PyProof.Rows L2

abbrev En := List (Option D)
abbrev PQ := D → Store → Prop
abbrev WE := En → Store → PQ → Prop
abbrev WT := En → Store → (Bool → Store → Prop) → Prop
abbrev WA := En → Store → (List D → Store → Prop) → Prop
structure PEnds where
  nx : En → Store → Prop
  rt : PQ
  bk : En → Store → Prop := fun _ _ => False
  ct : En → Store → Prop := fun _ _ => False
abbrev WS := PEnds → En → Store → Prop
abbrev WG := D → En → Store → (En → Store → Prop) → Prop
abbrev WI := En → Store → (List D → Store → Prop) → Prop

structure RelE (K : PySem.W.Frag) (F : Addr → Prop) (S : Store) (H : Hp) (env : En) (σ : L2.St) : Prop where
  len : env.length = σ.length
  at_ : ∀ (i : Nat) (d : D), env[i]? = some (some d) → ∃ v, σ[i]? = some (some v) ∧ RepD K F S H d v
/-- what stays true through a def's run -/
structure Gd where
  p : Store → Hp → Prop
  cl : ∀ {S H S' H'}, p S H → Fr S H S' H' → p S' H'
def gTrue : Gd := ⟨fun _ _ => True, fun _ _ => trivial⟩
structure At (K : PySem.W.Frag) (G : Gd) (F : Addr → Prop) (S : Store) (H : Hp) (env : En) (σ : L2.St) : Prop where
  ok : Ok K F S H
  en : RelE K F S H env σ
  g : G.p S H
def Post (K : PySem.W.Frag) (F : Addr → Prop) (S : Store) (H : Hp) (Q : PQ) (Q' : VK) : Prop := ∀ v H' d S', Ok K F S' H' → Fr S H S' H' → RepD K F S' H' d v → Q d S' → Q' v H'
def PostT (K : PySem.W.Frag) (F : Addr → Prop) (S : Store) (H : Hp) (Q : Bool → Store → Prop) (Q' : Bool → Hp → Prop) : Prop := ∀ b H' S', Ok K F S' H' → Fr S H S' H' → Q b S' → Q' b H'
def PostA (K : PySem.W.Frag) (F : Addr → Prop) (S : Store) (H : Hp) (Q : List D → Store → Prop) (Q' : List V → Hp → Prop) : Prop := ∀ vs H' ds S', Ok K F S' H' → Fr S H S' H' → RepDs K F S' H' ds vs → Q ds S' → Q' vs H'
section
variable {K : PySem.W.Frag} {G : Gd} {F : Addr → Prop} {S S' : Store} {H H' : Hp} {env : En} {σ : L2.St}
theorem RelE.fr (e : RelE K F S H env σ) (f : Fr S H S' H') : RelE K F S' H' env σ := ⟨e.len, fun i d h => let ⟨v, h1, h2⟩ := e.at_ i d h; ⟨v, h1, RepD.mv f.mv _ _ h2⟩⟩
theorem RelE.mv {F' : Addr → Prop} (e : RelE K F S H env σ) (f : Mv F S H F' S' H') : RelE K F' S' H' env σ := ⟨e.len, fun i d h => let ⟨v, h1, h2⟩ := e.at_ i d h; ⟨v, h1, RepD.mv f _ _ h2⟩⟩
theorem At.to (a : At K G F S H env σ) (ok : Ok K F S' H') (f : Fr S H S' H') : At K G F S' H' env σ := ⟨ok, a.en.fr f, G.cl a.g f⟩
theorem Post.fr {Q : PQ} {Q' : VK} (p : Post K F S H Q Q') (f : Fr S H S' H') : Post K F S' H' Q Q' := fun v H2 d S2 ok f2 => p v H2 d S2 ok (f.trans f2)
theorem PostT.fr {Q : Bool → Store → Prop} {Q' : Bool → Hp → Prop} (p : PostT K F S H Q Q') (f : Fr S H S' H') : PostT K F S' H' Q Q' := fun v H2 S2 ok f2 => p v H2 S2 ok (f.trans f2)
theorem PostA.fr {Q : List D → Store → Prop} {Q' : List V → Hp → Prop} (p : PostA K F S H Q Q') (f : Fr S H S' H') : PostA K F S' H' Q Q' := fun v H2 d S2 ok f2 => p v H2 d S2 ok (f.trans f2)
theorem Post.here {Q : PQ} {Q' : VK} (p : Post K F S H Q Q') (ok : Ok K F S H) {d : D} {v : V} (r : RepD K F S H d v) (q : Q d S) : Q' v H := p v H d S ok (Fr.refl S H) r q
/-- a new list, a new tuple, as data -/
theorem Post.newL {Q : PQ} {Q' : VK} (p : Post K F S H Q Q') (ok : Ok K F S H) {xs : List D} {vs : List V} (r : RepDs K F S H xs vs) (q : Q (.lst xs) S) {a : Addr} (h : H a = none) : Q' (.ref a) (upd H a (.lst vs)) :=
  p _ _ (.lst xs) S (ok.new h) (Fr.new ok h) ⟨a, vs, rfl, .inl ⟨(ok.free h).1, (ok.free h).2, .inl upd_same⟩, RepDs.mv (Fr.new ok h).mv _ _ r⟩ q
theorem Post.newT {Q : PQ} {Q' : VK} (p : Post K F S H Q Q') (ok : Ok K F S H) {xs : List D} {vs : List V} (r : RepDs K F S H xs vs) (q : Q (.tup xs) S) {a : Addr} (h : H a = none) : Q' (.ref a) (upd H a (.tup vs)) :=
  p _ _ (.tup xs) S (ok.new h) (Fr.new ok h) ⟨a, vs, rfl, .inl ⟨(ok.free h).1, (ok.free h).2, .inl upd_same⟩, RepDs.mv (Fr.new ok h).mv _ _ r⟩ q
/-- a new list as a cell -/
theorem Post.newC {Q : PQ} {Q' : VK} (p : Post K F S H Q Q') (ok : Ok K F S H) {xs : List D} {vs : List V} (r : RepDs K F S H xs vs) (q : ∀ a, S a = none → Q (.cel a) (sset S a (.lst xs))) {a : Addr} (h : H a = none) : Q' (.ref a) (upd H a (.lst vs)) :=
  p _ _ (.cel a) (sset S a (.lst xs)) (ok.newC (c := .lst xs) h ⟨vs, upd_same, RepDs.mv (Fr.newC ok h).mv _ _ r⟩) (Fr.newC ok h) rfl (q a (ok.free h).1)
theorem RelE.set (e : RelE K F S H env σ) (i : Nat) {d : D} {v : V} (r : RepD K F S H d v) : RelE K F S H (env.set i (some d)) (σ.set i (some v)) := by
  refine ⟨by rw [List.length_set, List.length_set, e.len], fun j d' h => ?_⟩
  by_cases hj : i = j
  · subst hj
    have hi : i < env.length := by
      rcases Nat.lt_or_ge i env.length with h1 | h1
      · exact h1
      · rw [List.getElem?_eq_none (by rw [List.length_set]; exact h1)] at h; cases h
    rw [List.getElem?_set_self hi] at h
    cases h
    exact ⟨v, List.getElem?_set_self (by rw [← e.len]; exact hi), r⟩
  · rw [List.getElem?_set_ne hj] at h
    obtain ⟨u, h1, h2⟩ := e.at_ j d' h
    exact ⟨u, by rw [List.getElem?_set_ne hj]; exact h1, h2⟩
theorem At.set (a : At K G F S H env σ) (i : Nat) {d : D} {v : V} (r : RepD K F S H d v) : At K G F S H (env.set i (some d)) (σ.set i (some v)) := ⟨a.ok, a.en.set i r, a.g⟩
def wipeD (env : En) : List Nat → En
  | [] => env
  | v :: vs => (wipeD env vs).set v none
theorem RelE.unset (e : RelE K F S H env σ) (i : Nat) : RelE K F S H (env.set i none) (σ.set i none) := by
  refine ⟨by rw [List.length_set, List.length_set, e.len], fun j d' h => ?_⟩
  by_cases hj : i = j
  · subst hj
    rcases Nat.lt_or_ge i env.length with h1 | h1
    · rw [List.getElem?_set_self h1] at h; cases h
    · rw [List.getElem?_eq_none (by rw [List.length_set]; exact h1)] at h; cases h
  · rw [List.getElem?_set_ne hj] at h
    obtain ⟨u, h1, h2⟩ := e.at_ j d' h
    exact ⟨u, by rw [List.getElem?_set_ne hj]; exact h1, h2⟩
theorem RelE.wipe (e : RelE K F S H env σ) : ∀ vs : List Nat, RelE K F S H (wipeD env vs) (wipe σ vs)
  | [] => e
  | v :: vs => (RelE.wipe e vs).unset v
end

/-! ### soundness of readings -/
def SndE (K : PySem.W.Frag) (G : Gd) (t : TE) (w : WE) : Prop := ∀ {F : Addr → Prop} {S : Store} {H : Hp} {env : En} {σ : L2.St} {Q : PQ} {Q' : VK}, At K G F S H env σ → w env S Q → Post K F S H Q Q' → t σ H Q'
def SndT (K : PySem.W.Frag) (G : Gd) (t : TT) (w : WT) : Prop := ∀ {F : Addr → Prop} {S : Store} {H : Hp} {env : En} {σ : L2.St} {Q : Bool → Store → Prop} {Q' : Bool → Hp → Prop}, At K G F S H env σ → w env S Q → PostT K F S H Q Q' → t σ H Q'
def SndA (K : PySem.W.Frag) (G : Gd) (t : TA) (w : WA) : Prop := ∀ {F : Addr → Prop} {S : Store} {H : Hp} {env : En} {σ : L2.St} {Q : List D → Store → Prop} {Q' : List V → Hp → Prop}, At K G F S H env σ → w env S Q → PostA K F S H Q Q' → t σ H Q'
structure EndsOk (K : PySem.W.Frag) (G : Gd) (F : Addr → Prop) (S : Store) (H : Hp) (P : PEnds) (D' : Ends) : Prop where
  nx : ∀ {env S' σ H'}, At K G F S' H' env σ → Fr S H S' H' → P.nx env S' → D'.nx σ H'
  rt : Post K F S H P.rt D'.rt
  bk : ∀ {env S' σ H'}, At K G F S' H' env σ → Fr S H S' H' → P.bk env S' → D'.bk σ H'
  ct : ∀ {env S' σ H'}, At K G F S' H' env σ → Fr S H S' H' → P.ct env S' → D'.ct σ H'
theorem EndsOk.fr {K : PySem.W.Frag} {G : Gd} {F : Addr → Prop} {S S' : Store} {H H' : Hp} {P : PEnds} {D' : Ends} (e : EndsOk K G F S H P D') (f : Fr S H S' H') : EndsOk K G F S' H' P D' :=
  ⟨fun a g q => e.nx a (f.trans g) q, e.rt.fr f, fun a g q => e.bk a (f.trans g) q, fun a g q => e.ct a (f.trans g) q⟩
def SndS (K : PySem.W.Frag) (G : Gd) (t : TS) (w : WS) : Prop := ∀ {F : Addr → Prop} {S : Store} {H : Hp} {env : En} {σ : L2.St} {P : PEnds} {D' : Ends}, At K G F S H env σ → w P env S → EndsOk K G F S H P D' → t D' σ H
def SndG (K : PySem.W.Frag) (G : Gd) (t : TG) (w : WG) : Prop := ∀ {F : Addr → Prop} {S : Store} {H : Hp} {env : En} {σ : L2.St} {d : D} {v : V} {Q : En → Store → Prop} {Q' : L2.St → Hp → Prop}, At K G F S H env σ → RepD K F S H d v → w d env S Q →
  (∀ {env' S' σ' H'}, At K G F S' H' env' σ' → Fr S H S' H' → Q env' S' → Q' σ' H') → t v σ H Q'
def SndR (K : PySem.W.Frag) (r : R2) (f : D → D → Store → PQ → Prop) : Prop := ∀ {F : Addr → Prop} {S : Store} {H : Hp} {x y : V} {a b : D} {Q : PQ} {Q' : VK}, Ok K F S H → RepD K F S H a x → RepD K F S H b y → f a b S Q → Post K F S H Q Q' → r x y H Q'
def SndU (K : PySem.W.Frag) (r : V → Hp → VK → Prop) (f : D → Store → PQ → Prop) : Prop := ∀ {F : Addr → Prop} {S : Store} {H : Hp} {x : V} {a : D} {Q : PQ} {Q' : VK}, Ok K F S H → RepD K F S H a x → f a S Q → Post K F S H Q Q' → r x H Q'
def SndC (K : PySem.W.Frag) (r : List V → Hp → VK → Prop) (f : List D → Store → PQ → Prop) : Prop := ∀ {F : Addr → Prop} {S : Store} {H : Hp} {xs : List V} {as : List D} {Q : PQ} {Q' : VK}, Ok K F S H → RepDs K F S H as xs → f as S Q → Post K F S H Q Q' → r xs H Q'
def SndM (K : PySem.W.Frag) (r : V → List V → Hp → VK → Prop) (f : D → List D → Store → PQ → Prop) : Prop := ∀ {F : Addr → Prop} {S : Store} {H : Hp} {x : V} {xs : List V} {a : D} {as : List D} {Q : PQ} {Q' : VK}, Ok K F S H → RepD K F S H a x → RepDs K F S H as xs → f a as S Q → Post K F S H Q Q' → r x xs H Q'

/-! ### judgements -/
def DE (X : Cx) (G : Gd) (e : Expr) (w : WE) : Prop := ∃ t, PE X e t ∧ SndE X.K G t w
def DT (X : Cx) (G : Gd) (e : Expr) (w : WT) : Prop := ∃ t, PT X e t ∧ SndT X.K G t w
def DW (X : Cx) (G : Gd) (e : Expr) (w : WT) : Prop := ∃ t, PW X e t ∧ SndT X.K G t w
def DA (X : Cx) (G : Gd) (es : List Expr) (w : WA) : Prop := ∃ t, PA X es t ∧ SndA X.K G t w
def DS (X : Cx) (G : Gd) (s : Stmt) (w : WS) : Prop := ∃ t, PS X s t ∧ SndS X.K G t w
def DSs (X : Cx) (G : Gd) (s : List Stmt) (w : WS) : Prop := ∃ t, PSs X s t ∧ SndS X.K G t w
def DG (X : Cx) (G : Gd) (e : Expr) (w : WG) : Prop := ∃ t, PG X e t ∧ SndG X.K G t w

section
variable {X : Cx} {G : Gd} {a b c e : Expr} {es : List Expr} {wa wb wc : WE} {pos : Pos}
/-! ### names, constants -/
def wVar (i : Nat) : WE := fun env S Q => match env[i]? with
  | some (some d) => Q d S
  | _ => False
def wC (d : D) : WE := fun _ S Q => Q d S
theorem de_v (i : Nat) {x : Str} {pos : Pos} (hN : X.N[i]? = some x := by rfl) (hv : Vis X.env.scope x := by first | exact Or.inl rfl | exact Or.inr (Or.inl rfl) | exact Or.inr (Or.inr rfl)) (hd : (x == ("__debug__" : Str)) = false := by decide)
    (hcd : (x == ("__classdict__" : Str)) = false := by decide) : DE X G (.Name x pos) (wVar i) := ⟨_, pe_var hN hv hd hcd, by
  intro F S H env σ Q Q' at_ hw post
  unfold wVar at hw
  split at hw
  · rename_i d e
    obtain ⟨v, h1, h2⟩ := at_.en.at_ i d e
    exact ⟨v, h1, post.here at_.ok h2 hw⟩
  · exact hw.elim⟩
theorem snd_c {K : PySem.W.Frag} {d : D} {v : V} (h : ∀ F S H, RepD K F S H d v) : SndE K G (tC v) (wC d) := fun at_ hw post => post.here at_.ok (h _ _ _) hw
theorem de_int {i : Int} {j} : DE X G (.Constant (.int i) j pos) (wC (.int i)) := ⟨_, pe_int, snd_c fun _ _ _ => by rfl⟩
theorem de_bl {i : Bool} {j} : DE X G (.Constant (.bool i) j pos) (wC (.bl i)) := ⟨_, pe_bl, snd_c fun _ _ _ => by rfl⟩
theorem de_non {j} : DE X G (.Constant .none j pos) (wC .non) := ⟨_, pe_non, snd_c fun _ _ _ => by rfl⟩
theorem de_str {i : Str} {j} : DE X G (.Constant (.str i) j pos) (wC (.str i)) := ⟨_, pe_str, snd_c fun _ _ _ => by rfl⟩
theorem de_globS {x y : Str} {t : Tok} (hm : X.mg x = some (.str y t)) (hg : Gl X x := by rfl) (hd : (x == ("__debug__" : Str)) = false := by decide) : DE X G (.Name x pos) (wC (.str y)) := ⟨_, pe_glob (v := .str y) hg hm ⟨_, rfl⟩ hd, snd_c fun _ _ _ => by rfl⟩
theorem de_globI {x : Str} {i : Int} {t : Tok} (hm : X.mg x = some (.int i t)) (hg : Gl X x := by rfl) (hd : (x == ("__debug__" : Str)) = false := by decide) : DE X G (.Name x pos) (wC (.int i)) := ⟨_, pe_glob (v := .int i) hg hm ⟨_, rfl⟩ hd, snd_c fun _ _ _ => by rfl⟩
theorem de_globR {x : Str} {a : Addr} (hm : X.mg x = some (.ref a)) (hg : Gl X x := by rfl) (hd : (x == ("__debug__" : Str)) = false := by decide) : DE X G (.Name x pos) (wC (.ref a)) := ⟨_, pe_glob (v := .ref a) hg hm rfl hd, snd_c fun _ _ _ => by rfl⟩
theorem de_bltT {x : Str} {n : String} (hm : X.mg x = none) (hv : bootBuiltins x = some (.type n)) (hg : Gl X x := by rfl) (hn : x ≠ "__name__" := by decide) (hd : (x == ("__debug__" : Str)) = false := by decide) : DE X G (.Name x pos) (wC (.ty n)) :=
  ⟨_, pe_bltn (v := .ty n) hg hm hv rfl hn hd, snd_c fun _ _ _ => by rfl⟩

/-! ### operators -/
def wOp (f : D → D → Store → PQ → Prop) (wa wb : WE) : WE := fun env S Q => wa env S fun x S1 => wb env S1 fun y S2 => f x y S2 Q
theorem snd_op {K : PySem.W.Frag} {ta tb : TE} {r : R2} {f : D → D → Store → PQ → Prop} (ha : SndE K G ta wa) (hb : SndE K G tb wb) (hr : SndR K r f) : SndE K G (tOp r ta tb) (wOp f wa wb) := fun at_ hw post =>
  ha at_ hw fun x H1 dx S1 ok1 f1 r1 q1 => hb (at_.to ok1 f1) q1 fun y H2 dy S2 ok2 f2 r2 q2 => hr ok2 (RepD.mv f2.mv _ _ r1) r2 q2 (post.fr (f1.trans f2))
theorem de_op {op : Operator} {r : R2} {f : D → D → Store → PQ → Prop} (ho : OpR X (binaryOp op) r) (hf : SndR X.K r f) (ha : DE X G a wa) (hb : DE X G b wb) : DE X G (.BinOp a op b pos) (wOp f wa wb) :=
  let ⟨_, p1, s1⟩ := ha; let ⟨_, p2, s2⟩ := hb; ⟨_, pe_op ho p1 p2, snd_op s1 s2 hf⟩
theorem de_cmp {op : CmpOp} {r : R2} {f : D → D → Store → PQ → Prop} (ho : OpR X (compareOp op) r) (hf : SndR X.K r f) (ha : DE X G a wa) (hb : DE X G b wb) (hm : behindInMarks op b = false := by first | exact nomark _ | rfl) : DE X G (.Compare a [op] [b] pos) (wOp f wa wb) :=
  let ⟨_, p1, s1⟩ := ha; let ⟨_, p2, s2⟩ := hb; ⟨_, pe_cmpR ho p1 p2 hm, snd_op s1 s2 hf⟩
theorem de_ix {r : R2} {f : D → D → Store → PQ → Prop} (ho : IxR X r) (hf : SndR X.K r f) (ha : DE X G a wa) (hb : DE X G b wb) (hs : PlainIx b := by exact fun _ _ => rfl) : DE X G (.Subscript a b pos) (wOp f wa wb) :=
  let ⟨_, p1, s1⟩ := ha; let ⟨_, p2, s2⟩ := hb; ⟨_, pe_ix ho p1 p2 hs, snd_op s1 s2 hf⟩
def wUn (f : D → Store → PQ → Prop) (wa : WE) : WE := fun env S Q => wa env S fun x S1 => f x S1 Q
theorem de_un {op : UnaryOp} {r : V → Hp → VK → Prop} {f : D → Store → PQ → Prop} (ho : UnR X (unaryOp op) r) (hf : SndU X.K r f) (ha : DE X G a wa) : DE X G (.UnaryOp op a pos) (wUn f wa) :=
  let ⟨_, p1, s1⟩ := ha; ⟨_, pe_un ho p1, fun at_ hw post => s1 at_ hw fun x H1 dx S1 ok1 f1 r1 q1 => hf ok1 r1 q1 (post.fr f1)⟩
/-- ints in, under C, a value out -/
def fI (C : Int → Int → Prop) (g : Int → Int → D) (x y : D) (S : Store) (Q : PQ) : Prop := match x, y with
  | .int i, .int j => C i j ∧ Q (g i j) S
  | _, _ => False
def fI0 (g : Int → Int → D) (x y : D) (S : Store) (Q : PQ) : Prop := match x, y with
  | .int i, .int j => Q (g i j) S
  | _, _ => False
theorem fI_is {C : Int → Int → Prop} {g : Int → Int → D} {x y : D} {S : Store} {Q : PQ} (h : fI C g x y S Q) : ∃ i j, x = .int i ∧ y = .int j ∧ C i j ∧ Q (g i j) S := by
  unfold fI at h
  split at h
  · exact ⟨_, _, rfl, rfl, h.1, h.2⟩
  · exact h.elim
theorem fI0_is {g : Int → Int → D} {x y : D} {S : Store} {Q : PQ} (h : fI0 g x y S Q) : ∃ i j, x = .int i ∧ y = .int j ∧ Q (g i j) S := by
  unfold fI0 at h
  split at h
  · exact ⟨_, _, rfl, rfl, h⟩
  · exact h.elim
theorem sr_I {K : PySem.W.Frag} {C : Int → Int → Prop} {g : Int → Int → D} {g' : Int → Int → V} (hg : ∀ F S H i j, RepD K F S H (g i j) (g' i j)) : SndR K (rI C g') (fI C g) := fun ok r1 r2 hf post => by
  obtain ⟨i, j, rfl, rfl, hc, q⟩ := fI_is hf
  exact ⟨i, j, r1, r2, hc, post.here ok (hg _ _ _ _ _) q⟩
theorem sr_I0 {K : PySem.W.Frag} {g : Int → Int → D} {g' : Int → Int → V} (hg : ∀ F S H i j, RepD K F S H (g i j) (g' i j)) : SndR K (rI0 g') (fI0 g) := fun ok r1 r2 hf post => by
  obtain ⟨i, j, rfl, rfl, q⟩ := fI0_is hf
  exact ⟨i, j, r1, r2, post.here ok (hg _ _ _ _ _) q⟩
theorem de_add (ha : DE X G a wa) (hb : DE X G b wb) : DE X G (.BinOp a .Add b pos) (wOp (fI0 fun i j => .int (i + j)) wa wb) := de_op op_add (sr_I0 fun _ _ _ _ _ => by rfl) ha hb
theorem de_sub (ha : DE X G a wa) (hb : DE X G b wb) : DE X G (.BinOp a .Sub b pos) (wOp (fI0 fun i j => .int (i - j)) wa wb) := de_op op_sub (sr_I0 fun _ _ _ _ _ => by rfl) ha hb
theorem de_mul (ha : DE X G a wa) (hb : DE X G b wb) : DE X G (.BinOp a .Mult b pos) (wOp (fI CMul fun i j => .int (i * j)) wa wb) := de_op op_mul (sr_I fun _ _ _ _ _ => by rfl) ha hb
theorem de_mod (ha : DE X G a wa) (hb : DE X G b wb) : DE X G (.BinOp a .Mod b pos) (wOp (fI (fun _ j => 0 < j) fun i j => .int (i % j)) wa wb) := de_op op_mod (sr_I fun _ _ _ _ _ => by rfl) ha hb
theorem de_fdiv (ha : DE X G a wa) (hb : DE X G b wb) : DE X G (.BinOp a .FloorDiv b pos) (wOp (fI CDiv fun i j => .int (i / j)) wa wb) := de_op op_fdiv (sr_I fun _ _ _ _ _ => by rfl) ha hb
theorem de_pow (ha : DE X G a wa) (hb : DE X G b wb) : DE X G (.BinOp a .Pow b pos) (wOp (fI CPow fun i j => .int (i ^ j.toNat)) wa wb) := de_op op_pow (sr_I fun _ _ _ _ _ => by rfl) ha hb
def fLt := fI0 fun i j => .bl (decide (i < j))
def fLe := fI0 fun i j => .bl (decide (i ≤ j))
def fGt := fI0 fun i j => .bl (decide (j < i))
def fGe := fI0 fun i j => .bl (decide (j ≤ i))
theorem sr_lt {K : PySem.W.Frag} : SndR K (rI0 fun i j => .bl (decide (i < j))) fLt := sr_I0 fun _ _ _ _ _ => by rfl
theorem sr_le {K : PySem.W.Frag} : SndR K (rI0 fun i j => .bl (decide (i ≤ j))) fLe := sr_I0 fun _ _ _ _ _ => by rfl
theorem sr_gt {K : PySem.W.Frag} : SndR K (rI0 fun i j => .bl (decide (j < i))) fGt := sr_I0 fun _ _ _ _ _ => by rfl
theorem sr_ge {K : PySem.W.Frag} : SndR K (rI0 fun i j => .bl (decide (j ≤ i))) fGe := sr_I0 fun _ _ _ _ _ => by rfl
/-- == of scalars -/
def eqS : D → D → Option Bool
  | .non, .non => some true | .non, .int _ => some false | .int _, .non => some false | .non, .bl _ => some false | .bl _, .non => some false | .non, .str _ => some false | .str _, .non => some false
  | .int i, .int j => some (decide (i = j)) | .bl i, .bl j => some (decide (i = j)) | .str i, .str j => some (decide (i = j))
  | .int _, .str _ => some false | .str _, .int _ => some false | .bl _, .str _ => some false | .str _, .bl _ => some false
  | _, _ => none
def fEq (x y : D) (S : Store) (Q : PQ) : Prop := match eqS x y with
  | some k => Q (.bl k) S
  | none => False
def fNe (x y : D) (S : Store) (Q : PQ) : Prop := match eqS x y with
  | some k => Q (.bl (!k)) S
  | none => False
theorem eqS_is {K : PySem.W.Frag} {F : Addr → Prop} {S : Store} {H : Hp} {a b : D} {x y : V} {k : Bool} (r1 : RepD K F S H a x) (r2 : RepD K F S H b y) (h : eqS a b = some k) : scal x y = true ∧ decide (x = y) = k := by
  cases a <;> cases b <;> simp only [eqS, Option.some.injEq, reduceCtorEq] at h
  all_goals (subst h; cases r1; cases r2; exact ⟨rfl, by simp⟩)
theorem sr_eq {K : PySem.W.Frag} : SndR K rEq fEq := fun ok r1 r2 hf post => by
  unfold fEq at hf
  split at hf
  · rename_i k e
    obtain ⟨h1, h2⟩ := eqS_is r1 r2 e
    exact ⟨h1, by rw [h2]; exact post.here ok (d := .bl k) rfl hf⟩
  · exact hf.elim
theorem sr_ne {K : PySem.W.Frag} : SndR K rNe fNe := fun ok r1 r2 hf post => by
  unfold fNe at hf
  split at hf
  · rename_i k e
    obtain ⟨h1, h2⟩ := eqS_is r1 r2 e
    exact ⟨h1, by rw [h2]; exact post.here ok (d := .bl (!k)) rfl hf⟩
  · exact hf.elim
theorem de_lt (ha : DE X G a wa) (hb : DE X G b wb) : DE X G (.Compare a [.Lt] [b] pos) (wOp fLt wa wb) := de_cmp op_lt sr_lt ha hb
theorem de_le (ha : DE X G a wa) (hb : DE X G b wb) : DE X G (.Compare a [.LtE] [b] pos) (wOp fLe wa wb) := de_cmp op_le sr_le ha hb
theorem de_gt (ha : DE X G a wa) (hb : DE X G b wb) : DE X G (.Compare a [.Gt] [b] pos) (wOp fGt wa wb) := de_cmp op_gt sr_gt ha hb
theorem de_ge (ha : DE X G a wa) (hb : DE X G b wb) : DE X G (.Compare a [.GtE] [b] pos) (wOp fGe wa wb) := de_cmp op_ge sr_ge ha hb
theorem de_eq (ha : DE X G a wa) (hb : DE X G b wb) : DE X G (.Compare a [.Eq] [b] pos) (wOp fEq wa wb) := de_cmp op_eq sr_eq ha hb
theorem de_ne (ha : DE X G a wa) (hb : DE X G b wb) : DE X G (.Compare a [.NotEq] [b] pos) (wOp fNe wa wb) := de_cmp op_ne sr_ne ha hb
/-- a op b op' c -/
def wChain (f f' : D → D → Store → PQ → Prop) (wa wb wc : WE) : WE := fun env S Q => wa env S fun x S1 => wb env S1 fun y S2 => f x y S2 fun z S3 => match z with
  | .bl true => wc env S3 fun w' S4 => f' y w' S4 Q
  | .bl false => Q (.bl false) S3
  | _ => False
theorem de_chain {op op' : CmpOp} {r r' : R2} {f f' : D → D → Store → PQ → Prop} (ho : OpR X (compareOp op) r) (ho' : OpR X (compareOp op') r') (hf : SndR X.K r f) (hf' : SndR X.K r' f') (ha : DE X G a wa) (hb : DE X G b wb) (hc : DE X G c wc)
    (hm : lastMarks [op, op'] [b, c] = false := by with_unfolding_all rfl) : DE X G (.Compare a [op, op'] [b, c] pos) (wChain f f' wa wb wc) :=
  let ⟨_, p1, s1⟩ := ha; let ⟨_, p2, s2⟩ := hb; let ⟨_, p3, s3⟩ := hc; ⟨_, pe_chain ho ho' p1 p2 p3 hm, by
    intro F S H env σ Q Q' at_ hw post
    refine s1 at_ hw fun x H1 dx S1 ok1 f1 r1 q1 => s2 (at_.to ok1 f1) q1 fun y H2 dy S2 ok2 f2 r2 q2 => ?_
    refine hf ok2 (RepD.mv f2.mv _ _ r1) r2 q2 fun z H3 dz S3 ok3 f3 r3 q3 => ?_
    cases dz <;> first | exact q3.elim | skip
    rename_i k
    refine ⟨k, r3, ?_⟩
    have fr3 := (f1.trans f2).trans f3
    cases k with
    | true =>
      rw [if_pos rfl]
      exact s3 (at_.to ok3 fr3) q3 fun u H4 du S4 ok4 f4 r4 q4 => hf' ok4 (RepD.mv (f3.trans f4).mv _ _ r2) r4 q4 (post.fr (fr3.trans f4))
    | false =>
      rw [if_neg Bool.false_ne_true]
      exact (post.fr fr3).here ok3 (d := .bl false) rfl q3⟩

/-! ### and, or, not, if as values -/
def wAndV (wa wb : WE) : WE := fun env S Q => wa env S fun x S1 => match x with
  | .bl true => wb env S1 Q
  | .bl false => Q (.bl false) S1
  | _ => False
def wOrV (wa wb : WE) : WE := fun env S Q => wa env S fun x S1 => match x with
  | .bl true => Q (.bl true) S1
  | .bl false => wb env S1 Q
  | _ => False
def wNotV (wa : WE) : WE := fun env S Q => wa env S fun x S1 => match x with
  | .bl c => Q (.bl (!c)) S1
  | _ => False
theorem de_one {op} (h : DE X G a wa) : DE X G (.BoolOp op [a] pos) wa := let ⟨_, p, s⟩ := h; ⟨_, pe_one p, s⟩
theorem de_and {rest : List Expr} (ha : DE X G a wa) (hb : DE X G (.BoolOp .And (b :: rest) pos) wb) : DE X G (.BoolOp .And (a :: b :: rest) pos) (wAndV wa wb) :=
  let ⟨_, p1, s1⟩ := ha; let ⟨_, p2, s2⟩ := hb; ⟨_, pe_and p1 p2, fun at_ hw post => s1 at_ hw fun x H1 dx S1 ok1 f1 r1 q1 => by
    cases dx <;> first | exact q1.elim | skip
    rename_i k
    refine ⟨k, r1, ?_⟩
    cases k with
    | true => rw [if_pos rfl]; exact s2 (at_.to ok1 f1) q1 (post.fr f1)
    | false => rw [if_neg Bool.false_ne_true]; exact (post.fr f1).here ok1 (d := .bl false) rfl q1⟩
theorem de_or {rest : List Expr} (ha : DE X G a wa) (hb : DE X G (.BoolOp .Or (b :: rest) pos) wb) : DE X G (.BoolOp .Or (a :: b :: rest) pos) (wOrV wa wb) :=
  let ⟨_, p1, s1⟩ := ha; let ⟨_, p2, s2⟩ := hb; ⟨_, pe_or p1 p2, fun at_ hw post => s1 at_ hw fun x H1 dx S1 ok1 f1 r1 q1 => by
    cases dx <;> first | exact q1.elim | skip
    rename_i k
    refine ⟨k, r1, ?_⟩
    cases k with
    | true => rw [if_pos rfl]; exact (post.fr f1).here ok1 (d := .bl true) rfl q1
    | false => rw [if_neg Bool.false_ne_true]; exact s2 (at_.to ok1 f1) q1 (post.fr f1)⟩
theorem de_not (ha : DE X G a wa) : DE X G (.UnaryOp .Not a pos) (wNotV wa) :=
  let ⟨_, p1, s1⟩ := ha; ⟨_, pe_not p1, fun at_ hw post => s1 at_ hw fun x H1 dx S1 ok1 f1 r1 q1 => by
    cases dx <;> first | exact q1.elim | skip
    rename_i k
    exact ⟨k, r1, (post.fr f1).here ok1 (d := .bl (!k)) rfl q1⟩⟩
def wIf (wt : WT) (wa wb : WE) : WE := fun env S Q => wt env S fun k S1 => match k with
  | true => wa env S1 Q
  | false => wb env S1 Q
theorem de_if {wt : WT} (hc : DT X G c wt) (ha : DE X G a wa) (hb : DE X G b wb) : DE X G (.IfExp c a b pos) (wIf wt wa wb) :=
  let ⟨_, p0, s0⟩ := hc; let ⟨_, p1, s1⟩ := ha; let ⟨_, p2, s2⟩ := hb; ⟨_, pe_ifExp p0 p1 p2, fun at_ hw post => s0 at_ hw fun k H1 S1 ok1 f1 q1 => by
    cases k with
    | true => rw [if_pos rfl]; exact s1 (at_.to ok1 f1) q1 (post.fr f1)
    | false => rw [if_neg Bool.false_ne_true]; exact s2 (at_.to ok1 f1) q1 (post.fr f1)⟩

/-! ### tests -/
def wB (wa : WE) : WT := fun env S Q => wa env S fun x S1 => match x with
  | .bl c => Q c S1
  | _ => False
theorem snd_B {K : PySem.W.Frag} {t : TE} (h : SndE K G t wa) : SndT K G (tB t) (wB wa) := fun at_ hw post => h at_ hw fun x H1 dx S1 ok1 f1 r1 q1 => by
  cases dx <;> first | exact q1.elim | skip
  rename_i k
  exact ⟨k, r1, post k H1 S1 ok1 f1 q1⟩
theorem dt_val (h : DE X G e wa) (he : ∀ whole, isTrue e X.env whole = (do let v ← whole; standAt e.pos; holding [v] (truthy v)) := by intro _; rfl) : DT X G e (wB wa) := let ⟨_, p, s⟩ := h; ⟨_, pt_val p he, snd_B s⟩
theorem dt_cmp {op : CmpOp} {r : R2} {f : D → D → Store → PQ → Prop} (ho : OpR X (compareOp op) r) (hf : SndR X.K r f) (ha : DE X G a wa) (hb : DE X G b wb) (hm : behindInMarks op b = false := by first | exact nomark _ | rfl) : DT X G (.Compare a [op] [b] pos) (wB (wOp f wa wb)) :=
  let ⟨_, p1, s1⟩ := ha; let ⟨_, p2, s2⟩ := hb; ⟨_, pt_cmpR ho p1 p2 hm, snd_B (snd_op s1 s2 hf)⟩
theorem dt_lt (ha : DE X G a wa) (hb : DE X G b wb) : DT X G (.Compare a [.Lt] [b] pos) (wB (wOp fLt wa wb)) := dt_cmp op_lt sr_lt ha hb
theorem dt_le (ha : DE X G a wa) (hb : DE X G b wb) : DT X G (.Compare a [.LtE] [b] pos) (wB (wOp fLe wa wb)) := dt_cmp op_le sr_le ha hb
theorem dt_gt (ha : DE X G a wa) (hb : DE X G b wb) : DT X G (.Compare a [.Gt] [b] pos) (wB (wOp fGt wa wb)) := dt_cmp op_gt sr_gt ha hb
theorem dt_ge (ha : DE X G a wa) (hb : DE X G b wb) : DT X G (.Compare a [.GtE] [b] pos) (wB (wOp fGe wa wb)) := dt_cmp op_ge sr_ge ha hb
theorem dt_eq (ha : DE X G a wa) (hb : DE X G b wb) : DT X G (.Compare a [.Eq] [b] pos) (wB (wOp fEq wa wb)) := dt_cmp op_eq sr_eq ha hb
theorem dt_ne (ha : DE X G a wa) (hb : DE X G b wb) : DT X G (.Compare a [.NotEq] [b] pos) (wB (wOp fNe wa wb)) := dt_cmp op_ne sr_ne ha hb
theorem dt_chain {op op' : CmpOp} {r r' : R2} {f f' : D → D → Store → PQ → Prop} (ho : OpR X (compareOp op) r) (ho' : OpR X (compareOp op') r') (hf : SndR X.K r f) (hf' : SndR X.K r' f') (ha : DE X G a wa) (hb : DE X G b wb) (hc : DE X G c wc)
    (hm : lastMarks [op, op'] [b, c] = false := by with_unfolding_all rfl) : DT X G (.Compare a [op, op'] [b, c] pos) (wB (wChain f f' wa wb wc)) :=
  let ⟨_, p1, s1⟩ := ha; let ⟨_, p2, s2⟩ := hb; let ⟨_, p3, s3⟩ := hc; ⟨_, pt_chain ho ho' p1 p2 p3 hm, by
    refine snd_B (t := tChain r r' _ _ _) ?_
    intro F S H env σ Q Q' at_ hw post
    refine s1 at_ hw fun x H1 dx S1 ok1 f1 r1 q1 => s2 (at_.to ok1 f1) q1 fun y H2 dy S2 ok2 f2 r2 q2 => ?_
    refine hf ok2 (RepD.mv f2.mv _ _ r1) r2 q2 fun z H3 dz S3 ok3 f3 r3 q3 => ?_
    cases dz <;> first | exact q3.elim | skip
    rename_i k
    refine ⟨k, r3, ?_⟩
    have fr3 := (f1.trans f2).trans f3
    cases k with
    | true =>
      rw [if_pos rfl]
      exact s3 (at_.to ok3 fr3) q3 fun u H4 du S4 ok4 f4 r4 q4 => hf' ok4 (RepD.mv (f3.trans f4).mv _ _ r2) r4 q4 (post.fr (fr3.trans f4))
    | false =>
      rw [if_neg Bool.false_ne_true]
      exact (post.fr fr3).here ok3 (d := .bl false) rfl q3⟩
variable {wt wu : WT}
def wAnd (wt wu : WT) : WT := fun env S Q => wt env S fun k S1 => match k with
  | true => wu env S1 Q
  | false => Q false S1
def wOr (wt wu : WT) : WT := fun env S Q => wt env S fun k S1 => match k with
  | true => Q true S1
  | false => wu env S1 Q
def wNot (wt : WT) : WT := fun env S Q => wt env S fun k S1 => Q (!k) S1
theorem DW.dt (h : DW X G e wt) : DT X G e wt := let ⟨_, p, s⟩ := h; ⟨_, p.pt, s⟩
theorem dw_and1 (h : DT X G a wt) : DW X G (.BoolOp .And [a] pos) wt := let ⟨_, p, s⟩ := h; ⟨_, pw_and1 p, s⟩
theorem dw_or1 (h : DT X G a wt) : DW X G (.BoolOp .Or [a] pos) wt := let ⟨_, p, s⟩ := h; ⟨_, pw_or1 p, s⟩
theorem dw_and {rest : List Expr} (ha : DT X G a wt) (hb : DW X G (.BoolOp .And (b :: rest) pos) wu) : DW X G (.BoolOp .And (a :: b :: rest) pos) (wAnd wt wu) :=
  let ⟨_, p1, s1⟩ := ha; let ⟨_, p2, s2⟩ := hb; ⟨_, pw_and p1 p2, fun at_ hw post => s1 at_ hw fun k H1 S1 ok1 f1 q1 => by
    cases k with
    | true => rw [if_pos rfl]; exact s2 (at_.to ok1 f1) q1 (post.fr f1)
    | false => rw [if_neg Bool.false_ne_true]; exact post false H1 S1 ok1 f1 q1⟩
theorem dw_or {rest : List Expr} (ha : DT X G a wt) (hb : DW X G (.BoolOp .Or (b :: rest) pos) wu) : DW X G (.BoolOp .Or (a :: b :: rest) pos) (wOr wt wu) :=
  let ⟨_, p1, s1⟩ := ha; let ⟨_, p2, s2⟩ := hb; ⟨_, pw_or p1 p2, fun at_ hw post => s1 at_ hw fun k H1 S1 ok1 f1 q1 => by
    cases k with
    | true => rw [if_pos rfl]; exact post true H1 S1 ok1 f1 q1
    | false => rw [if_neg Bool.false_ne_true]; exact s2 (at_.to ok1 f1) q1 (post.fr f1)⟩
theorem dt_not (ha : DT X G a wt) : DT X G (.UnaryOp .Not a pos) (wNot wt) :=
  let ⟨_, p1, s1⟩ := ha; ⟨_, pt_not p1, fun at_ hw post => s1 at_ hw fun k H1 S1 ok1 f1 q1 => post (!k) H1 S1 ok1 f1 q1⟩

/-! ### argument lists, displays -/
variable {wr : WA}
def wNil : WA := fun _ S Q => Q [] S
def wCons (wa : WE) (wr : WA) : WA := fun env S Q => wa env S fun x S1 => wr env S1 fun xs S2 => Q (x :: xs) S2
theorem da_nil : DA X G [] wNil := ⟨_, pa_nil, fun at_ hw post => post [] _ [] _ at_.ok (Fr.refl _ _) rfl hw⟩
theorem da_cons (ha : DE X G e wa) (hr : DA X G es wr) (hs : starEach (e :: es) X.env = (false, eval e X.env) :: starEach es X.env := by rfl) : DA X G (e :: es) (wCons wa wr) :=
  let ⟨_, p1, s1⟩ := ha; let ⟨_, p2, s2⟩ := hr; ⟨_, pa_cons p1 p2 hs, fun at_ hw post => s1 at_ hw fun x H1 dx S1 ok1 f1 r1 q1 => s2 (at_.to ok1 f1) q1 fun xs H2 ds S2 ok2 f2 r2 q2 =>
    post (x :: xs) H2 (dx :: ds) S2 ok2 (f1.trans f2) ⟨x, xs, rfl, RepD.mv f2.mv _ _ r1, r2⟩ q2⟩
def wTup (wr : WA) : WE := fun env S Q => wr env S fun xs S1 => xs.length ≤ sizeLine ∧ Q (.tup xs) S1
def wLst (wr : WA) : WE := fun env S Q => wr env S fun xs S1 => xs.length ≤ sizeLine ∧ Q (.lst xs) S1
def wLstC (wr : WA) : WE := fun env S Q => wr env S fun xs S1 => xs.length ≤ sizeLine ∧ ∀ a, S1 a = none → Q (.cel a) (sset S1 a (.lst xs))
theorem de_tup {x1} (h : DA X G es wr) : DE X G (.Tuple es x1 pos) (wTup wr) := let ⟨_, p, s⟩ := h; ⟨_, pe_tup p, fun at_ hw post => s at_ hw fun xs H1 ds S1 ok1 f1 r1 q1 => ⟨by rw [← r1.length]; exact q1.1, fun p hp => (post.fr f1).newT ok1 r1 q1.2 hp⟩⟩
theorem de_lst (h : DA X G es wr) : DE X G (.List es pos) (wLst wr) := let ⟨_, p, s⟩ := h; ⟨_, pe_lst p, fun at_ hw post => s at_ hw fun xs H1 ds S1 ok1 f1 r1 q1 => ⟨by rw [← r1.length]; exact q1.1, fun p hp => (post.fr f1).newL ok1 r1 q1.2 hp⟩⟩
theorem de_lstC (h : DA X G es wr) : DE X G (.List es pos) (wLstC wr) := let ⟨_, p, s⟩ := h; ⟨_, pe_lst p, fun at_ hw post => s at_ hw fun xs H1 ds S1 ok1 f1 r1 q1 => ⟨by rw [← r1.length]; exact q1.1, fun p hp => (post.fr f1).newC ok1 r1 q1.2 hp⟩⟩

/-! ### calls of built-ins, methods of built-ins -/
def wCB (f : List D → Store → PQ → Prop) (wr : WA) : WE := fun env S Q => wr env S fun xs S1 => f xs S1 Q
theorem snd_cb {K : PySem.W.Frag} {t : TA} {r : List V → Hp → VK → Prop} {f : List D → Store → PQ → Prop} (h : SndA K G t wr) (hf : SndC K r f) : SndE K G (tCB r t) (wCB f wr) := fun at_ hw post => h at_ hw fun xs H1 ds S1 ok1 f1 r1 q1 => hf ok1 r1 q1 (post.fr f1)
theorem de_callB {x : Str} {p : Pos} {id : String} {r : List V → Hp → VK → Prop} {f : List D → Store → PQ → Prop} (hc : CallR X (.builtin id) r) (hf : SndC X.K r f) (hm : X.mg x = none) (ha : DA X G (e :: es) wr) (hv : bootBuiltins x = some (.builtin id) := by decide +kernel) (hg : Gl X x := by rfl) (hn : x ≠ "__name__" := by decide) (hdb : (x == ("__debug__" : Str)) = false := by decide)
    (he : starEach (e :: es) X.env = (false, eval e X.env) :: starEach es X.env := by rfl) (hpl : (backTo pos (starEach es X.env)).any (·.1) = false := by rfl) : DE X G (.Call (.Name x p) (e :: es) [] pos) (wCB f wr) :=
  let ⟨_, p, s⟩ := ha; ⟨_, pe_callB hc hg hm hv p hn hdb he hpl, snd_cb s hf⟩
theorem de_callTy {x : Str} {p : Pos} {T : String} {r : List V → Hp → VK → Prop} {f : List D → Store → PQ → Prop} (hc : CallR X (.type T) r) (hf : SndC X.K r f) (hm : X.mg x = none) (ha : DA X G (e :: es) wr) (hv : bootBuiltins x = some (.type T) := by decide +kernel) (hg : Gl X x := by rfl) (hn : x ≠ "__name__" := by decide) (hdb : (x == ("__debug__" : Str)) = false := by decide)
    (he : starEach (e :: es) X.env = (false, eval e X.env) :: starEach es X.env := by rfl) (hpl : (backTo pos (starEach es X.env)).any (·.1) = false := by rfl) : DE X G (.Call (.Name x p) (e :: es) [] pos) (wCB f wr) :=
  let ⟨_, p, s⟩ := ha; ⟨_, pe_callTy hc hg hm hv p hn hdb he hpl, snd_cb s hf⟩
end
end Pz

set_option Elab.async false
set_option linter.all false
set_option maxRecDepth 100000
set_option maxHeartbeats 4000000
namespace Pz
open PySem PySem.Spec PyProof.Rows L2

/-! ### targets -/
/-- slots beside vs are as they were -/
def Out (vs : List Nat) (σ σ' : L2.St) : Prop := σ'.length = σ.length ∧ ∀ j, j ∉ vs → σ'[j]? = σ[j]?
theorem wipe_get (σ : L2.St) (j : Nat) : ∀ vs : List Nat, (wipe σ vs)[j]? = if j ∈ vs ∧ j < σ.length then some none else σ[j]?
  | [] => by simp [wipe]
  | v :: vs => by
    unfold wipe
    by_cases h : v = j
    · subst h
      by_cases hl : v < σ.length
      · rw [List.getElem?_set_self (by rw [wipe_length]; exact hl), if_pos ⟨by simp, hl⟩]
      · rw [if_neg (fun z => hl z.2), List.getElem?_eq_none (by rw [List.length_set, wipe_length]; omega), List.getElem?_eq_none (by omega)]
    · rw [List.getElem?_set_ne h, wipe_get σ j vs]
      have e : (j ∈ v :: vs ∧ j < σ.length) = (j ∈ vs ∧ j < σ.length) := by
        have h' : ¬ j = v := fun z => h z.symm
        simp [h']
      simp only [e]
theorem Out.wipe {vs : List Nat} {σ σ' : L2.St} (o : Out vs σ σ') : wipe σ' vs = wipe σ vs := by
  refine List.ext_getElem? fun j => ?_
  rw [wipe_get, wipe_get, o.1]
  by_cases h : j ∈ vs
  · by_cases hl : j < σ.length
    · rw [if_pos ⟨h, hl⟩, if_pos ⟨h, hl⟩]
    · rw [if_neg (fun z => hl z.2), if_neg (fun z => hl z.2), List.getElem?_eq_none (by rw [o.1]; omega), List.getElem?_eq_none (by omega)]
  · rw [if_neg (fun z => h z.1), if_neg (fun z => h z.1), o.2 j h]
theorem Out.refl (vs : List Nat) (σ : L2.St) : Out vs σ σ := ⟨rfl, fun _ _ => rfl⟩
theorem Out.trans {vs : List Nat} {σ σ1 σ2 : L2.St} (a : Out vs σ σ1) (b : Out vs σ1 σ2) : Out vs σ σ2 := ⟨b.1.trans a.1, fun j h => (b.2 j h).trans (a.2 j h)⟩
theorem Out.mono {vs ws : List Nat} {σ σ' : L2.St} (a : Out vs σ σ') (h : ∀ j, j ∈ vs → j ∈ ws) : Out ws σ σ' := ⟨a.1, fun j hj => a.2 j fun z => hj (h j z)⟩
theorem Out.set (σ : L2.St) (i : Nat) (v : Option V) : Out [i] σ (σ.set i v) := ⟨List.length_set, fun j h => List.getElem?_set_ne (fun z => h (by simp [z]))⟩
def SndGv (K : PySem.W.Frag) (G : Gd) (t : TG) (w : WG) (vs : List Nat) : Prop := ∀ {F : Addr → Prop} {S : Store} {H : Hp} {env : En} {σ : L2.St} {d : D} {v : V} {Q : En → Store → Prop} {Q' : L2.St → Hp → Prop}, At K G F S H env σ → RepD K F S H d v → w d env S Q →
  (∀ {env' S' σ' H'}, At K G F S' H' env' σ' → Fr S H S' H' → Out vs σ σ' → Q env' S' → Q' σ' H') → t v σ H Q'
def DGv (X : Cx) (G : Gd) (e : Expr) (w : WG) (vs : List Nat) : Prop := ∃ t, PG X e t ∧ SndGv X.K G t w vs
abbrev WGs := List D → En → Store → (En → Store → Prop) → Prop
def SndGs (K : PySem.W.Frag) (G : Gd) (t : TGs) (w : WGs) (vs : List Nat) : Prop := ∀ {F : Addr → Prop} {S : Store} {H : Hp} {env : En} {σ : L2.St} {ds : List D} {us : List V} {Q : En → Store → Prop} {Q' : L2.St → Hp → Prop}, At K G F S H env σ → RepDs K F S H ds us → w ds env S Q →
  (∀ {env' S' σ' H'}, At K G F S' H' env' σ' → Fr S H S' H' → Out vs σ σ' → Q env' S' → Q' σ' H') → t us σ H Q'
def DGs (X : Cx) (G : Gd) (es : List Expr) (w : WGs) (vs : List Nat) : Prop := ∃ t, PGs X es t ∧ SndGs X.K G t w vs

/-! ### the canonical readings -/
def tOfE (K : PySem.W.Frag) (G : Gd) (w : WE) : TE := fun σ H Q' => ∃ F S env Q, At K G F S H env σ ∧ w env S Q ∧ Post K F S H Q Q'
def tOfT (K : PySem.W.Frag) (G : Gd) (w : WT) : TT := fun σ H Q' => ∃ F S env Q, At K G F S H env σ ∧ w env S Q ∧ PostT K F S H Q Q'
def tOfG (K : PySem.W.Frag) (G : Gd) (w : WG) (vs : List Nat) : TG := fun v σ H Q' => ∃ F S env d Q, At K G F S H env σ ∧ RepD K F S H d v ∧ w d env S Q ∧ ∀ {env' S' σ' H'}, At K G F S' H' env' σ' → Fr S H S' H' → Out vs σ σ' → Q env' S' → Q' σ' H'
section
variable {X : Cx} {G : Gd} {a b c e : Expr} {es : List Expr} {wa wb wc : WE} {pos : Pos} {wt wu : WT} {wr : WA}
theorem DE.pe (h : DE X G e wa) : PE X e (tOfE X.K G wa) := let ⟨_, p, s⟩ := h; ⟨fun pins s0 σ H Q I hw => let ⟨F, S, env, Qp, at_, q, post⟩ := hw; p.run pins s0 σ H Q I (s at_ q post)⟩
theorem DT.pt (h : DT X G e wt) : PT X e (tOfT X.K G wt) := let ⟨_, p, s⟩ := h; ⟨fun pins s0 σ H Q I hw => let ⟨F, S, env, Qp, at_, q, post⟩ := hw; p.run pins s0 σ H Q I (s at_ q post)⟩
theorem DGv.pg {w : WG} {vs : List Nat} (h : DGv X G e w vs) : PG X e (tOfG X.K G w vs) := let ⟨_, p, s⟩ := h; ⟨fun pins s0 σ H v u Q I r hw => let ⟨F, S, env, d, Qp, at_, rp, q, post⟩ := hw; p.run pins s0 σ H v u Q I r (s at_ rp q post)⟩
def gwName (i : Nat) : WG := fun d env S Q => Q (env.set i (some d)) S
theorem dg_name {i : Nat} {x : Str} (hN : X.N.Nodup) (hi : X.N[i]? = some x := by rfl) (hx : Loc X.env.scope x := by first | exact Or.inl rfl | exact Or.inr rfl) (hf : X.fn x = true ∨ X.env.scope.names.lookup x = some .local := by first | exact .inl rfl | exact .inr rfl | assumption) : DGv X G (.Name x pos) (gwName i) [i] :=
  ⟨_, pg_name hN hi hx hf, fun at_ r hw post => post (at_.set i r) (Fr.refl _ _) (Out.set _ i _) hw⟩
def gwNil : WGs := fun ds env S Q => match ds with
  | [] => Q env S
  | _ => False
def gwCons (w : WG) (ws : WGs) : WGs := fun ds env S Q => match ds with
  | d :: r => w d env S fun env' S' => ws r env' S' Q
  | [] => False
theorem dgs_nil : DGs X G [] gwNil [] := ⟨_, pgs_nil, fun {F S H env σ ds us Q Q'} at_ r hw post => by
  cases ds with
  | nil => cases r; exact ⟨rfl, post at_ (Fr.refl _ _) (Out.refl _ _) hw⟩
  | cons d ds => exact hw.elim⟩
theorem dgs_cons {w : WG} {ws : WGs} {vs us : List Nat} (h1 : DGv X G e w vs) (h2 : DGs X G es ws us) (hs : (assignEach (e :: es) X.env).map (·.2) = assign e X.env :: (assignEach es X.env).map (·.2) := by rfl) : DGs X G (e :: es) (gwCons w ws) (vs ++ us) :=
  let ⟨_, p1, s1⟩ := h1; let ⟨_, p2, s2⟩ := h2; ⟨_, pgs_cons p1 p2 hs, fun {F S H env σ ds us' Q Q'} at_ r hw post => by
    cases ds with
    | nil => exact hw.elim
    | cons d ds =>
      obtain ⟨v, rr, rfl, r1, r2⟩ := r
      refine ⟨v, rr, rfl, s1 at_ r1 hw fun at1 f1 o1 q1 => s2 at1 (RepDs.mv f1.mv _ _ r2) q1 fun at2 f2 o2 q2 => post at2 (f1.trans f2) ((o1.mono fun j h => List.mem_append_left _ h).trans (o2.mono fun j h => List.mem_append_right _ h)) q2⟩⟩
def gwTup (n : Nat) (ws : WGs) : WG := fun d env S Q => match d with
  | .tup ds => ds.length = n ∧ ws ds env S Q
  | _ => False
theorem dg_tup {k : Nat} {ws : WGs} {vs : List Nat} {n : Nat} (hc : X.calm = true) (h : DGs X G es ws vs) (hn : (assignEach es X.env).length = n := by rfl) (hst : (assignEach es X.env).findIdx? (·.1) = none := by rfl) : DGv X G (.Tuple es k pos) (gwTup n ws) vs :=
  let ⟨_, p, s⟩ := h; ⟨_, pg_tup hc p hn hst, fun {F S H env σ d v Q Q'} at_ r hw post => by
    cases d <;> first | exact hw.elim | skip
    obtain ⟨a, us, rfl, ht, rs⟩ := r
    exact ⟨a, us, rfl, ht.sq, by rw [← rs.length]; exact hw.1, s at_ rs hw.2 post⟩⟩
/-- o[i] = v, o a cell that is a list -/
def fSetL (o i v : D) (S : Store) (Q : Store → Prop) : Prop := match o, i with
  | .cel a, .int k => match S a with
    | some (.lst xs) => match ixN xs.length k with
      | some j => Q (sset S a (.lst (xs.set j v)))
      | none => False
    | _ => False
  | _, _ => False
def gwSub (wo wi : WE) : WG := fun d env S Q => wo env S fun o S1 => wi env S1 fun i S2 => fSetL o i d S2 fun S3 => Q env S3
theorem snd_setL {K : PySem.W.Frag} {F : Addr → Prop} {S : Store} {H : Hp} {o i v : D} {x y z : V} {Q : Store → Prop} {Q' : Hp → Prop} (ok : Ok K F S H) (r1 : RepD K F S H o x) (r2 : RepD K F S H i y) (r3 : RepD K F S H v z) (hw : fSetL o i v S Q)
    (post : ∀ S' H', Ok K F S' H' → Fr S H S' H' → Q S' → Q' H') : rSetL x y z H Q' := by
  unfold fSetL at hw
  split at hw
  · rename_i a k
    split at hw
    · rename_i xs e
      split at hw
      · rename_i j ej
        obtain ⟨_, vs, hv, rs⟩ := ok.cells a _ e
        refine ⟨a, vs, k, j, r1, r2, hv, by rw [← rs.length]; exact ej, ?_⟩
        have f : Fr S H (sset S a (.lst (xs.set j v))) (upd H a (.lst (vs.set j z))) := Fr.chg e
        exact post _ _ (ok.chg (c' := .lst (xs.set j v)) e ⟨_, upd_same, RepDs.set j (RepDs.mv f.mv _ _ rs) (RepD.mv f.mv _ _ r3)⟩) f hw
      · exact hw.elim
    · exact hw.elim
  · exact hw.elim
theorem dg_subL {o i : Expr} {wo wi : WE} (ho : DE X G o wo) (hi : DE X G i wi)
    (ha : ∀ v, assign (.Subscript o i pos) X.env v = (do
      let ov ← holding [v] (eval o X.env)
      let iv ← holding [v, ov] (eval i X.env)
      standAt pos
      holding [v, ov, iv] (setItem ov iv v)
      release [v, ov, iv] []) := by intro _; rfl) : DGv X G (.Subscript o i pos) (gwSub wo wi) [] :=
  let ⟨_, p1, s1⟩ := ho; let ⟨_, p2, s2⟩ := hi; ⟨_, pg_sub p1 p2 set_list ha, fun {F S H env σ d v Q Q'} at_ r hw post => s1 at_ hw fun x H1 dx S1 ok1 f1 r1 q1 => s2 (at_.to ok1 f1) q1 fun y H2 dy S2 ok2 f2 r2 q2 =>
    snd_setL ok2 (RepD.mv f2.mv _ _ r1) r2 (RepD.mv (f1.trans f2).mv _ _ r) q2 fun S3 H3 ok3 f3 q3 => post (at_.to ok3 ((f1.trans f2).trans f3)) ((f1.trans f2).trans f3) (Out.refl _ _) q3⟩

/-! ### statements -/
variable {st : Stmt} {rest : List Stmt} {w1 w2 : WS}
def wNext : WS := fun P env S => P.nx env S
def wSeq (w1 w2 : WS) : WS := fun P env S => w1 { P with nx := w2 P } env S
theorem dss_nil : DSs X G [] wNext := ⟨_, pss_nil, fun at_ hw e => e.nx at_ (Fr.refl _ _) hw⟩
theorem dss_cons (h1 : DS X G st w1) (h2 : DSs X G rest w2) : DSs X G (st :: rest) (wSeq w1 w2) := let ⟨_, p1, s1⟩ := h1; let ⟨_, p2, s2⟩ := h2; ⟨_, pss_cons p1 p2, fun at_ hw e => s1 at_ hw ⟨fun a f q => s2 a q (e.fr f), e.rt, e.bk, e.ct⟩⟩
theorem dss_one (h1 : DS X G st w1) : DSs X G [st] w1 := let ⟨_, p1, s1⟩ := h1; ⟨_, pss_one p1, s1⟩
def wDrop (wa : WE) : WS := fun P env S => wa env S fun _ S1 => P.nx env S1
theorem ds_expr (h : DE X G e wa) (hs : swapsWith e none pos.line X.env = pure false := by rfl) : DS X G (.Expr e pos) (wDrop wa) := let ⟨_, p, s⟩ := h; ⟨_, ps_expr p hs, fun at_ hw e => s at_ hw fun v H1 d S1 ok1 f1 r1 q1 => e.nx (at_.to ok1 f1) f1 q1⟩
def wRet (wa : WE) : WS := fun P env S => wa env S P.rt
theorem ds_ret (h : DE X G e wa) : DS X G (.Return (some e) pos) (wRet wa) := let ⟨_, p, s⟩ := h; ⟨_, ps_ret p, fun at_ hw e => s at_ hw e.rt⟩
def wRetN : WS := fun P _ S => P.rt .non S
theorem ds_retN : DS X G (.Return none pos) wRetN := ⟨_, ps_retN, fun at_ hw e => e.rt.here at_.ok (d := .non) rfl hw⟩
def wIfS (wt : WT) (w1 w2 : WS) : WS := fun P env S => wt env S fun k S1 => match k with
  | true => w1 P env S1
  | false => w2 P env S1
theorem ds_if {c : Expr} {a b : List Stmt} (hc : DT X G c wt) (ha : DSs X G a w1) (hb : DSs X G b w2) : DS X G (.If c a b pos) (wIfS wt w1 w2) :=
  let ⟨_, p0, s0⟩ := hc; let ⟨_, p1, s1⟩ := ha; let ⟨_, p2, s2⟩ := hb; ⟨_, ps_if p0 p1 p2, fun at_ hw e => s0 at_ hw fun k H1 S1 ok1 f1 q1 => by
    cases k with
    | true => rw [if_pos rfl]; exact s1 (at_.to ok1 f1) q1 (e.fr f1)
    | false => rw [if_neg Bool.false_ne_true]; exact s2 (at_.to ok1 f1) q1 (e.fr f1)⟩
def wPass : WS := wNext
theorem ds_pass : DS X G (.Pass pos) wPass := ⟨_, ps_pass, fun at_ hw e => e.nx at_ (Fr.refl _ _) hw⟩
def wBrk : WS := fun P env S => P.bk env S
def wCnt : WS := fun P env S => P.ct env S
theorem ds_brk : DS X G (.Break pos) wBrk := ⟨_, ps_break, fun at_ hw e => e.bk at_ (Fr.refl _ _) hw⟩
theorem ds_cnt : DS X G (.Continue pos) wCnt := ⟨_, ps_continue, fun at_ hw e => e.ct at_ (Fr.refl _ _) hw⟩
def wAsg (wa : WE) (g : WG) : WS := fun P env S => wa env S fun x S1 => g x env S1 P.nx
theorem snd_asg {K : PySem.W.Frag} {te : TE} {t : TG} {g : WG} {vs : List Nat} (h : SndE K G te wa) (hg : SndGv K G t g vs) : SndS K G (tAsg te t) (wAsg wa g) := fun at_ hw e => h at_ hw fun v H1 d S1 ok1 f1 r1 q1 => hg (at_.to ok1 f1) r1 q1 fun a f _ q => e.nx a (f1.trans f) q
theorem ds_asg {tg e : Expr} {g : WG} {vs : List Nat} (h : DE X G e wa) (hg : DGv X G tg g vs) (hs : swapsWithSole [tg] e pos.line X.env = pure false := by rfl) (hw : swappedStores [tg] e X.env = pure none := by rfl)
    (h1 : (assignEach [tg] X.env).map (·.2) = [assign tg X.env] := by rfl) : DS X G (.Assign [tg] e pos) (wAsg wa g) := let ⟨_, p, s⟩ := h; let ⟨_, pg, sg⟩ := hg; ⟨_, ps_asg p pg hs hw h1, snd_asg s sg⟩
/-- x = e -/
theorem ds_set {i : Nat} {x : Str} {e : Expr} {pos' : Pos} (hN : X.N.Nodup) (h : DE X G e wa) (hi : X.N[i]? = some x := by rfl) (hx : Loc X.env.scope x := by first | exact Or.inl rfl | exact Or.inr rfl) (hs : swapsWith e (some (.Name x pos')) pos.line X.env = pure false := by rfl)
    (hf : X.fn x = true ∨ X.env.scope.names.lookup x = some .local := by first | exact .inl rfl | exact .inr rfl | assumption) : DS X G (.Assign [.Name x pos'] e pos) (wAsg wa (gwName i)) :=
  let ⟨_, p, s⟩ := h; ⟨_, ps_set hN hi hx p hs hf, snd_asg (vs := [i]) s fun at_ r hw post => post (at_.set i r) (Fr.refl _ _) (Out.set _ i _) hw⟩
/-- a, b = x, y: two written items, plain local names -/
def wPar (i j : Nat) (wr : WA) : WS := fun P env S => wr env S fun ds S1 => match ds with
  | [d, e] => P.nx ((env.set i (some d)).set j (some e)) S1
  | _ => False
theorem ds_par {i j : Nat} {x y : Str} {a b : Expr} {px py pt : Pos} {kt k2 pt2} (hc : X.calm = true) (hN : X.N.Nodup) (ha : DA X G [a, b] wr) (hi : X.N[i]? = some x := by rfl) (hj : X.N[j]? = some y := by rfl) (hij : i ≠ j := by decide)
    (hx : X.env.scope.names.lookup x = some .local := by rfl) (hy : X.env.scope.names.lookup y = some .local := by rfl)
    (hw : swappedStores [.Tuple [.Name x px, .Name y py] kt pt] (.Tuple [a, b] k2 pt2) X.env = pure (some [x, y]) := by rfl)
    (hs : swapsWithSole [.Tuple [.Name x px, .Name y py] kt pt] (.Tuple [a, b] k2 pt2) pos.line X.env = pure false := by rfl) :
    DS X G (.Assign [.Tuple [.Name x px, .Name y py] kt pt] (.Tuple [a, b] k2 pt2) pos) (wPar i j wr) :=
  let ⟨_, p, s⟩ := ha; ⟨_, ps_par hc hN hi hj hij hx hy p hw hs, fun at_ hq e => s at_ hq fun vs H1 ds S1 ok1 f1 r1 q1 => by
    match ds, q1 with
    | [d, d'], q1 =>
      obtain ⟨v, _, rfl, r1, v', _, rfl, r2, z⟩ := r1
      cases z
      exact ⟨v, v', rfl, e.nx (((at_.to ok1 f1).set i r1).set j r2) f1 q1⟩
    | [], q1 => exact q1.elim
    | [_], q1 => exact q1.elim
    | _ :: _ :: _ :: _, q1 => exact q1.elim⟩
/-- o[i] += e, o a cell that is a list -/
theorem get_list : PGet X (rIxL X.K) := by
  intro pins s σ H x y v u Q I rx ry h
  obtain ⟨p, xs, i, z, rfl, rfl, hq, he, q⟩ := h
  cases rx
  obtain ⟨t, rfl⟩ := ry
  obtain ⟨its, r, pl, hz⟩ := I.list hq
  obtain ⟨j, h1, h2, h3, h4, h5⟩ := atI_get he
  obtain ⟨w, ew, rw'⟩ := r.get h2
  have hl := r.length
  have hn := line63
  have fin : EP X pins σ Q w s := ⟨z, H, I, rw', q⟩
  by_cases h0 : 0 ≤ i
  · have hj : i.toNat = j := by
      rw [seqIndex_of h0 h5] at h1
      exact Option.some.inj h1
    exact wpAny_getItem_list pl.isList h0 (by omega) (by rw [hj]; simpa using ew) fin
  · have hj : (i + (its.toArray.size : Int)).toNat = j := by
      rw [seqIndex_neg (by omega) h4] at h1
      rw [List.size_toArray, ← hl]
      exact Option.some.inj h1
    exact wpAny_getItem_list_neg pl.isList (by omega) (by rw [List.size_toArray] <;> omega) (by omega) (by rw [hj]; simpa using ew) fin
/-- the items that a value has (a list or tuple as data, or a cell that is a list) -/
def seqOf (S : Store) : D → Option (List D)
  | .lst xs => some xs
  | .tup xs => some xs
  | .cel a => match S a with
    | some (.lst xs) => some xs
    | _ => none
  | _ => none
def lstOf (S : Store) : D → Option (List D)
  | .lst xs => some xs
  | .cel a => match S a with
    | some (.lst xs) => some xs
    | _ => none
  | _ => none
theorem lst_of {K : PySem.W.Frag} {F : Addr → Prop} {S : Store} {H : Hp} {d : D} {v : V} {xs : List D} (ok : Ok K F S H) (r : RepD K F S H d v) (h : lstOf S d = some xs) : ∃ a vs, v = .ref a ∧ SqL K H a vs ∧ RepDs K F S H xs vs := by
  cases d <;> simp only [lstOf, reduceCtorEq] at h
  · rename_i a
    split at h
    · rename_i ys e
      cases h
      obtain ⟨_, vs, hv, rs⟩ := ok.cells a _ e
      exact ⟨a, vs, r, .inl (.inl hv), rs⟩
    · cases h
  · cases h
    obtain ⟨a, vs, e, hl, rs⟩ := r
    exact ⟨a, vs, e, hl.sq, rs⟩
theorem seq_of {K : PySem.W.Frag} {F : Addr → Prop} {S : Store} {H : Hp} {d : D} {v : V} {xs : List D} (ok : Ok K F S H) (r : RepD K F S H d v) (h : seqOf S d = some xs) : ∃ a vs, v = .ref a ∧ (SqL K H a vs ∨ SqT K H a vs) ∧ RepDs K F S H xs vs := by
  cases d <;> simp only [seqOf, reduceCtorEq] at h
  · rename_i a
    split at h
    · rename_i ys e
      cases h
      obtain ⟨_, vs, hv, rs⟩ := ok.cells a _ e
      exact ⟨a, vs, r, .inl (.inl (.inl hv)), rs⟩
    · cases h
  · cases h
    obtain ⟨a, vs, e, hl, rs⟩ := r
    exact ⟨a, vs, e, .inl hl.sq, rs⟩
  · cases h
    obtain ⟨a, vs, e, hl, rs⟩ := r
    exact ⟨a, vs, e, .inr hl.sq, rs⟩
/-- d[i] -/
def atD (xs : List D) (i : Int) : Option D := match ixN xs.length i with
  | some j => xs[j]?
  | none => none
def fIxL (x y : D) (S : Store) (Q : PQ) : Prop := match lstOf S x, y with
  | some xs, .int i => match atD xs i with
    | some d => Q d S
    | none => False
  | _, _ => False
theorem at_rep {K : PySem.W.Frag} {F : Addr → Prop} {S : Store} {H : Hp} {xs : List D} {vs : List V} {i : Int} {d : D} (rs : RepDs K F S H xs vs) (h : atD xs i = some d) : ∃ v, atI vs i = some v ∧ RepD K F S H d v := by
  unfold atD at h
  split at h
  · rename_i j e
    obtain ⟨v, h1, h2⟩ := rs.get h
    refine ⟨v, ?_, h2⟩
    unfold atI
    rw [rs.length] at e
    rw [e]
    exact h1
  · cases h
theorem sr_ixL {K : PySem.W.Frag} : SndR K (rIxL K) fIxL := fun {F S H x y a b Q Q'} ok r1 r2 hf post => by
  unfold fIxL at hf
  split at hf
  · rename_i xs i e
    split at hf
    · rename_i d ed
      obtain ⟨p, vs, rfl, hs, rs⟩ := lst_of ok r1 e
      obtain ⟨v, h1, h2⟩ := at_rep rs ed
      exact ⟨p, vs, i, v, rfl, r2, hs, h1, post.here ok h2 hf⟩
    · exact hf.elim
  · exact hf.elim
theorem de_ixL (ha : DE X G a wa) (hb : DE X G b wb) (hs : PlainIx b := by exact fun _ _ => rfl) : DE X G (.Subscript a b pos) (wOp fIxL wa wb) := de_ix ix_list sr_ixL ha hb hs
def fIxT (x y : D) (S : Store) (Q : PQ) : Prop := match x, y with
  | .tup xs, .int i => match atD xs i with
    | some d => Q d S
    | none => False
  | _, _ => False
theorem sr_ixT {K : PySem.W.Frag} : SndR K (rIxT K) fIxT := fun {F S H x y a b Q Q'} ok r1 r2 hf post => by
  unfold fIxT at hf
  split at hf
  · rename_i xs i
    split at hf
    · rename_i d ed
      obtain ⟨p, vs, rfl, hs, rs⟩ := r1
      obtain ⟨v, h1, h2⟩ := at_rep rs ed
      exact ⟨p, vs, i, v, rfl, r2, hs.sq, h1, post.here ok h2 hf⟩
    · exact hf.elim
  · exact hf.elim
theorem de_ixT (ha : DE X G a wa) (hb : DE X G b wb) (hs : PlainIx b := by exact fun _ _ => rfl) : DE X G (.Subscript a b pos) (wOp fIxT wa wb) := de_ix ix_tup sr_ixT ha hb hs
def wAugS (wo wi wa : WE) (f : D → D → Store → PQ → Prop) : WS := fun P env S => wo env S fun o S1 => wi env S1 fun i S2 => fIxL o i S2 fun x S3 => wa env S3 fun y S4 => f x y S4 fun z S5 => fSetL o i z S5 fun S6 => P.nx env S6
theorem ds_augS {o i : Expr} {wo wi : WE} {op : Operator} {tip : TIp} {f : D → D → Store → PQ → Prop} {tpos : Pos} (ho : DE X G o wo) (hi : DE X G i wi) (he : DE X G e wa) (hp : PIp X op tip) (hf : SndR X.K tip f)
    (ha : ∀ ov iv new, augStore i ov iv new = (do holding [new, ov, iv] (setItem ov iv new); release [new, ov, iv] []; pure .next) := by intros; rfl) : DS X G (.AugAssign (.Subscript o i tpos) op e pos) (wAugS wo wi wa f) :=
  let ⟨_, p1, s1⟩ := ho; let ⟨_, p2, s2⟩ := hi; let ⟨_, p3, s3⟩ := he; ⟨_, ps_augS p1 p2 get_list p3 hp set_list ha, fun {F S H env σ P D'} at_ hw en =>
    s1 at_ hw fun x H1 dx S1 ok1 f1 r1 q1 => s2 (at_.to ok1 f1) q1 fun y H2 dy S2 ok2 f2 r2 q2 => sr_ixL ok2 (RepD.mv f2.mv _ _ r1) r2 q2 fun u H3 du S3 ok3 f3 r3 q3 =>
      s3 (at_.to ok3 ((f1.trans f2).trans f3)) q3 fun t H4 dt S4 ok4 f4 r4 q4 => hf ok4 (RepD.mv f4.mv _ _ r3) r4 q4 fun z H5 dz S5 ok5 f5 r5 q5 =>
        snd_setL ok5 (RepD.mv (((f2.trans f3).trans f4).trans f5).mv _ _ r1) (RepD.mv ((f3.trans f4).trans f5).mv _ _ r2) r5 q5 fun S6 H6 ok6 f6 q6 =>
          en.nx (at_.to ok6 (((((f1.trans f2).trans f3).trans f4).trans f5).trans f6)) (((((f1.trans f2).trans f3).trans f4).trans f5).trans f6) q6⟩
theorem sr_ipAdd {K : PySem.W.Frag} : SndR K (ipI fun i j => i + j) (fI0 fun i j => .int (i + j)) := fun ok r1 r2 hf post => by
  obtain ⟨i, j, rfl, rfl, q⟩ := fI0_is hf
  exact ⟨i, j, r1, r2, post.here ok (d := .int (i + j)) rfl q⟩
def wAug (i : Nat) (wa : WE) (f : D → D → Store → PQ → Prop) : WS := fun P env S => match env[i]? with
  | some (some x) => wa env S fun y S1 => f x y S1 fun z S2 => P.nx (env.set i (some z)) S2
  | _ => False
theorem ds_aug {i : Nat} {x : Str} {op : Operator} {tip : TIp} {f : D → D → Store → PQ → Prop} {pos' : Pos} (hN : X.N.Nodup) (he : DE X G e wa) (ho : PIp X op tip) (hf : SndR X.K tip f) (hi : X.N[i]? = some x := by rfl) (hx : Loc X.env.scope x := by first | exact Or.inl rfl | exact Or.inr rfl) (hfn : X.fn x = true ∨ X.env.scope.names.lookup x = some .local := by first | exact .inl rfl | exact .inr rfl | assumption) :
    DS X G (.AugAssign (.Name x pos') op e pos) (wAug i wa f) := let ⟨_, p, s⟩ := he; ⟨_, ps_aug hN hi hx p ho hfn, fun {F S H env σ P D'} at_ hw en => by
  unfold wAug at hw
  split at hw
  · rename_i d ed
    obtain ⟨v, h1, h2⟩ := at_.en.at_ i d ed
    exact ⟨v, h1, s at_ hw fun y H1 dy S1 ok1 f1 r1 q1 => hf ok1 (RepD.mv f1.mv _ _ h2) r1 q1 fun z H2 dz S2 ok2 f2 r2 q2 => en.nx ((at_.to ok2 (f1.trans f2)).set i r2) (f1.trans f2) q2⟩
  · exact hw.elim⟩

/-! ### while -/
def wWhile (wt : WT) (w : WS) : WS := fun P env S => ∃ I : Nat → En → Store → Prop, (∃ m, I m env S) ∧ ∀ m env S, I m env S → wt env S fun k S1 => match k with
  | true => w { P with nx := fun env' S' => ∃ m', m' < m ∧ I m' env' S', ct := fun env' S' => ∃ m', m' < m ∧ I m' env' S', bk := P.nx } env S1
  | false => P.nx env S1
theorem ds_while {c : Expr} {body : List Stmt} (hp : PassesOwn (model X.prog X.w) X.A X.env X.xe) (hc : DT X G c wt) (hb : DSs X G body w1) : DS X G (.While c body [] pos) (wWhile wt w1) :=
  let ⟨_, p0, s0⟩ := hc; let ⟨_, p1, s1⟩ := hb; ⟨_, ps_while hp p0 p1, fun {F S H env σ P D'} at_ hw en => by
    obtain ⟨I, ⟨m, hm⟩, turn⟩ := hw
    refine ⟨fun m σ' H' => ∃ env' S', At X.K G F S' H' env' σ' ∧ Fr S H S' H' ∧ I m env' S', ⟨m, env, S, at_, Fr.refl _ _, hm⟩, ?_⟩
    rintro m σ1 H1 ⟨env1, S1, at1, f1, hI⟩
    refine s0 at1 (turn m env1 S1 hI) fun k H2 S2 ok2 f2 q2 => ?_
    cases k with
    | true =>
      rw [if_pos rfl]
      refine ⟨fun σ' H' => ∃ m' env' S', m' < m ∧ At X.K G F S' H' env' σ' ∧ Fr S H S' H' ∧ I m' env' S', fun σ' H' ⟨m', env', S', lt, a, f, i⟩ => ⟨m', lt, env', S', a, f, i⟩, ?_⟩
      refine s1 (at1.to ok2 f2) q2 ⟨fun {env' S' σ' H'} a f q => ?_, en.rt.fr (f1.trans f2), fun {env' S' σ' H'} a f q => en.nx a ((f1.trans f2).trans f) q, fun {env' S' σ' H'} a f q => ?_⟩
      · obtain ⟨m', lt, i⟩ := q; exact ⟨m', env', S', lt, a, (f1.trans f2).trans f, i⟩
      · obtain ⟨m', lt, i⟩ := q; exact ⟨m', env', S', lt, a, (f1.trans f2).trans f, i⟩
    | false =>
      rw [if_neg Bool.false_ne_true]
      exact en.nx (at1.to ok2 f2) (f1.trans f2) q2⟩

/-! ### what is walked -/
structure Walks (K : PySem.W.Frag) (F : Addr → Prop) (S0 : Store) (H0 : Hp) (J : It) (xs : List D) : Prop where
  go : ∀ i x S H, xs[i]? = some x → Ok K F S H → Fr S0 H0 S H → J.go i H ∧ ∀ v H', J.yld i H v H' → Ok K F S H' ∧ Fr S H S H' ∧ RepD K F S H' x v
  stop : ∀ i S H, xs[i]? = none → Ok K F S H → Fr S0 H0 S H → J.stop i H
def SndI (K : PySem.W.Frag) (G : Gd) (t : TI) (w : WI) : Prop := ∀ {F : Addr → Prop} {S : Store} {H : Hp} {env : En} {σ : L2.St} {Q : List D → Store → Prop} {R : It → Hp → Prop}, At K G F S H env σ → w env S Q →
  (∀ J H' xs S', Ok K F S' H' → Fr S H S' H' → (∀ F' S2 H2, Mv F S' H' F' S2 H2 → Walks K F' S2 H2 J xs) → Q xs S' → R J H') → t σ H R
def DI (X : Cx) (G : Gd) (tg e : Expr) (w : WI) : Prop := ∃ t, PI X tg e t ∧ SndI X.K G t w

theorem walks_list {K : PySem.W.Frag} {F : Addr → Prop} {S : Store} {H : Hp} {a : Addr} {vs : List V} {xs : List D} (hl : LAt K F S H a vs) (rs : RepDs K F S H xs vs) : Walks K F S H (Itl K a) xs := by
  refine ⟨fun i x S1 H1 e ok f => ?_, fun i S1 H1 e ok f => ?_⟩
  · obtain ⟨v, h1, h2⟩ := rs.get e
    have hl1 := (hl.mv (f.mv (F := F))).sq
    refine ⟨⟨vs, v, hl1, h1⟩, fun u H2 ⟨e2, h3⟩ => ?_⟩
    subst e2
    have e3 := h3 vs hl1
    rw [h1] at e3
    cases e3
    exact ⟨ok, Fr.refl _ _, RepD.mv f.mv _ _ h2⟩
  · refine ⟨vs, (hl.mv (f.mv (F := F))).sq, ?_⟩
    rw [← rs.length]
    exact List.getElem?_eq_none_iff.mp e
theorem walks_tup {K : PySem.W.Frag} {F : Addr → Prop} {S : Store} {H : Hp} {a : Addr} {vs : List V} {xs : List D} (hl : TAt K F S H a vs) (rs : RepDs K F S H xs vs) : Walks K F S H (Itt K a) xs := by
  refine ⟨fun i x S1 H1 e ok f => ?_, fun i S1 H1 e ok f => ?_⟩
  · obtain ⟨v, h1, h2⟩ := rs.get e
    have hl1 := (hl.mv (f.mv (F := F))).sq
    refine ⟨⟨vs, v, hl1, h1⟩, fun u H2 ⟨e2, h3⟩ => ?_⟩
    subst e2
    have e3 := h3 vs hl1
    rw [h1] at e3
    cases e3
    exact ⟨ok, Fr.refl _ _, RepD.mv f.mv _ _ h2⟩
  · refine ⟨vs, (hl.mv (f.mv (F := F))).sq, ?_⟩
    rw [← rs.length]
    exact List.getElem?_eq_none_iff.mp e
/-- for x in a list that is data -/
def wiL (wa : WE) : WI := fun env S Q => wa env S fun d S1 => match d with
  | .lst xs => Q xs S1
  | _ => False
def wiT (wa : WE) : WI := fun env S Q => wa env S fun d S1 => match d with
  | .tup xs => Q xs S1
  | _ => False
theorem di_list {tg : Expr} (h : DE X G e wa) : DI X G tg e (wiL wa) := let ⟨_, p, s⟩ := h; ⟨_, pi_list p, fun {F S H env σ Q R} at_ hw k => s at_ hw fun v H1 d S1 ok1 f1 r1 q1 => by
  cases d <;> first | exact q1.elim | skip
  obtain ⟨a, vs, rfl, hl, rs⟩ := r1
  exact ⟨a, rfl, ⟨vs, hl.sq⟩, k _ H1 _ S1 ok1 f1 (fun F' S2 H2 m => walks_list (hl.mv m) (RepDs.mv m _ _ rs)) q1⟩⟩
theorem di_tup {tg : Expr} (h : DE X G e wa) : DI X G tg e (wiT wa) := let ⟨_, p, s⟩ := h; ⟨_, pi_tup p, fun {F S H env σ Q R} at_ hw k => s at_ hw fun v H1 d S1 ok1 f1 r1 q1 => by
  cases d <;> first | exact q1.elim | skip
  obtain ⟨a, vs, rfl, hl, rs⟩ := r1
  exact ⟨a, rfl, ⟨vs, hl.sq⟩, k _ H1 _ S1 ok1 f1 (fun F' S2 H2 m => walks_tup (hl.mv m) (RepDs.mv m _ _ rs)) q1⟩⟩
/-- the ints of a range -/
def rangeD (lo : Int) (n : Nat) : List D := (List.range n).map fun k => D.int (lo + (k : Nat))
theorem walks_range {K : PySem.W.Frag} {F : Addr → Prop} {S : Store} {H : Hp} (lo : Int) (n : Nat) : Walks K F S H (Itr lo n) (rangeD lo n) := by
  refine ⟨fun i x S1 H1 e ok f => ?_, fun i S1 H1 e ok f => ?_⟩
  · unfold rangeD at e
    rw [List.getElem?_map] at e
    have hi : i < n := by
      rcases Nat.lt_or_ge i n with h | h
      · exact h
      · rw [List.getElem?_eq_none (by simpa using h)] at e; cases e
    rw [List.getElem?_range hi] at e
    cases e
    refine ⟨hi, fun v H2 ⟨e2, e3⟩ => ?_⟩
    subst e2
    exact ⟨ok, Fr.refl _ _, e3⟩
  · unfold rangeD at e
    have h := List.getElem?_eq_none_iff.mp e
    show n ≤ i
    simpa using h
def wiR1 (wa : WE) : WI := fun env S Q => wa env S fun d S1 => match d with
  | .int j => (-(2 ^ 62) ≤ j ∧ j < 2 ^ 62) ∧ Q (rangeD 0 j.toNat) S1
  | _ => False
theorem di_range1 {tg : Expr} {p : Pos} (hm : X.mg "range" = none) (h : DE X G e wa) (hg : Gl X "range" := by rfl) (hs : starEach [e] X.env = [(false, eval e X.env)] := by rfl) : DI X G tg (.Call (.Name "range" p) [e] [] pos) (wiR1 wa) := by
  obtain ⟨t, p, s⟩ := h
  refine ⟨_, pi_range1 hg hm (pa_cons p pa_nil (by rw [hs]; rfl)) hs, fun {F S H env σ Q R} at_ hw k => ?_⟩
  refine s at_ hw fun v H1 d S1 ok1 f1 r1 q1 => ?_
  cases d <;> first | exact q1.elim | skip
  rename_i j
  cases r1
  exact ⟨j, rfl, q1.1.1, q1.1.2, k _ H1 _ S1 ok1 f1 (fun F' S2 H2 m => walks_range 0 _) q1.2⟩
def wiR2 (wa wb : WE) : WI := fun env S Q => wa env S fun d S1 => wb env S1 fun d2 S2 => match d, d2 with
  | .int i, .int j => (-(2 ^ 62) ≤ i ∧ i < 2 ^ 62 ∧ -(2 ^ 62) ≤ j ∧ j < 2 ^ 62) ∧ Q (rangeD i (j - i).toNat) S2
  | _, _ => False
theorem di_range2 {tg : Expr} {p : Pos} (hm : X.mg "range" = none) (h : DE X G a wa) (h' : DE X G b wb) (hg : Gl X "range" := by rfl) (hs : starEach [a, b] X.env = [(false, eval a X.env), (false, eval b X.env)] := by rfl) (hs2 : starEach [b] X.env = [(false, eval b X.env)] := by rfl) : DI X G tg (.Call (.Name "range" p) [a, b] [] pos) (wiR2 wa wb) := by
  obtain ⟨t, p, s⟩ := h
  obtain ⟨t', p', s'⟩ := h'
  refine ⟨_, pi_range2 hg hm (pa_cons p (pa_cons p' pa_nil (by rw [hs2]; rfl)) (by rw [hs, hs2])) hs hs2, fun {F S H env σ Q R} at_ hw k => ?_⟩
  refine s at_ hw fun v H1 d S1 ok1 f1 r1 q1 => s' (at_.to ok1 f1) q1 fun u H2 d2 S2 ok2 f2 r2 q2 => ?_
  cases d <;> first | exact q2.elim | skip
  cases d2 <;> first | exact q2.elim | skip
  rename_i i j
  cases r1
  cases r2
  exact ⟨i, j, rfl, q2.1, k _ H2 _ S2 ok2 (f1.trans f2) (fun F' S2 H2 m => walks_range i _) q2.2⟩
/-- the signs of a text -/
def signsD (x : Str) : List D := x.cps.toList.map fun c => D.str ⟨#[c]⟩
theorem walks_str {K : PySem.W.Frag} {F : Addr → Prop} {S : Store} {H : Hp} (x : Str) : Walks K F S H (Its x) (signsD x) := by
  refine ⟨fun i d S1 H1 e ok f => ?_, fun i S1 H1 e ok f => ?_⟩
  · unfold signsD at e
    rw [List.getElem?_map] at e
    have e0 : x.cps[i]? = x.cps.toList[i]? := by simp
    cases q : x.cps.toList[i]? with
    | none => rw [q] at e; cases e
    | some c =>
      rw [q] at e
      cases e
      rw [q] at e0
      refine ⟨?_, fun v H2 ⟨e2, c', h3, h4⟩ => ?_⟩
      · show i < x.cps.size
        rcases Nat.lt_or_ge i x.cps.size with h | h
        · exact h
        · rw [Array.getElem?_eq_none h] at e0; cases e0
      · subst e2
        rw [e0] at h3
        cases h3
        exact ⟨ok, Fr.refl _ _, h4⟩
  · unfold signsD at e
    have h := List.getElem?_eq_none_iff.mp e
    show x.cps.size ≤ i
    simpa using h
def wiS (wa : WE) : WI := fun env S Q => wa env S fun d S1 => match d with
  | .str x => Q (signsD x) S1
  | _ => False
theorem di_str {tg : Expr} (h : DE X G e wa) : DI X G tg e (wiS wa) := let ⟨_, p, s⟩ := h; ⟨_, pi_str p, fun {F S H env σ Q R} at_ hw k => s at_ hw fun v H1 d S1 ok1 f1 r1 q1 => by
  cases d <;> first | exact q1.elim | skip
  exact ⟨_, r1, k _ H1 _ S1 ok1 f1 (fun F' S2 H2 m => walks_str _) q1⟩⟩

/-! ### for -/
def ForGo (g : WG) (w : WS) (P : PEnds) (env : En) (xs : List D) (S1 : Store) : Prop := ∃ I : Nat → En → Store → Prop, I 0 env S1 ∧ ∀ i env S, I i env S → match xs[i]? with
  | some x => g x env S fun env2 S2 => w { P with nx := I (i + 1), ct := I (i + 1), bk := P.nx } env2 S2
  | none => P.nx env S
def wFor (wi : WI) (g : WG) (w : WS) : WS := fun P env S => wi env S fun xs S1 => ForGo g w P env xs S1
theorem ds_for {tg iter : Expr} {body : List Stmt} {wi : WI} {g : WG} {vs : List Nat} (hp : PassesOwn (model X.prog X.w) X.A X.env X.xe) (hc : X.calm = true) (hi : DI X G tg iter wi) (hg : DGv X G tg g vs) (hb : DSs X G body w1)
    (hs : ∀ x, foldedSetIterable iter X.env x = pure x := by intro _; rfl) : DS X G (.For tg iter body [] pos) (wFor wi g w1) := by
  obtain ⟨ti, pi, si⟩ := hi
  obtain ⟨tg', pg, sg⟩ := hg
  obtain ⟨tb, pb, sb⟩ := hb
  refine ⟨_, ps_for hp hc pi pg pb hs, fun {F S H env σ P D'} at_ hw en => ?_⟩
  refine si at_ hw fun J H1 xs S1 ok1 f1 wk ⟨I, h0, turn⟩ => ?_
  have wk := wk F S1 H1 (Fr.refl _ _).mv
  refine ⟨fun i m σ' H' => ∃ env' S', At X.K G F S' H' env' σ' ∧ Fr S1 H1 S' H' ∧ I i env' S' ∧ i + m = xs.length + 1, ⟨xs.length + 1, env, S1, at_.to ok1 f1, Fr.refl _ _, h0, by omega⟩, ?_⟩
  rintro i m σ2 H2 ⟨env2, S2, at2, f2, hI, hm⟩
  have t2 := turn i env2 S2 hI
  cases e : xs[i]? with
  | none =>
    rw [e] at t2
    exact .inl ⟨wk.stop i S2 H2 e at2.ok f2, en.nx at2 (f1.trans f2) t2⟩
  | some x =>
    rw [e] at t2
    have hi : i < xs.length := (List.getElem?_eq_some_iff.mp e).1
    obtain ⟨g1, g2⟩ := wk.go i x S2 H2 e at2.ok f2
    refine .inr ⟨g1, fun σ' H' => ∃ env' S', At X.K G F S' H' env' σ' ∧ Fr S1 H1 S' H' ∧ I (i + 1) env' S', fun σ' H' ⟨env', S', a, f, q⟩ => ⟨m - 1, by omega, env', S', a, f, q, by omega⟩, fun v H3 y => ?_⟩
    obtain ⟨ok3, f3, r3⟩ := g2 v H3 y
    refine sg (at2.to ok3 f3) r3 t2 fun {env4 S4 σ4 H4} a4 f4 _ q4 => ?_
    have f14 := (f2.trans f3).trans f4
    exact sb a4 q4 ⟨fun a f q => ⟨_, _, a, f14.trans f, q⟩, en.rt.fr (f1.trans f14), fun a f q => en.nx a ((f1.trans f14).trans f) q, fun a f q => ⟨_, _, a, f14.trans f, q⟩⟩
end
end Pz

set_option Elab.async false
set_option linter.all false
set_option maxRecDepth 100000
set_option maxHeartbeats 4000000
namespace Pz
open PySem PySem.Spec PyProof.Rows L2

section
variable {X : Cx} {G : Gd} {a b c e : Expr} {es : List Expr} {wa wb wc : WE} {pos : Pos} {wt wu : WT} {wr : WA}
/-! ### list comprehensions, one clause -/
def LcGo (g : WG) (wt : WT) (we : WE) (vs : List Nat) (env : En) (Q : PQ) (xs : List D) (S1 : Store) : Prop := ∃ I : Nat → List D → Store → Prop, I 0 [] S1 ∧ ∀ i acc S, I i acc S → match xs[i]? with
  | some x => g x (wipeD env vs) S fun env2 S2 => wt env2 S2 fun k S3 => match k with
    | true => we env2 S3 fun y S4 => acc.length < sizeLine ∧ I (i + 1) (acc ++ [y]) S4
    | false => I (i + 1) acc S3
  | none => Q (.lst acc) S
def wLc (wi : WI) (g : WG) (wt : WT) (we : WE) (vs : List Nat) : WE := fun env S Q => wi env S fun xs S1 => LcGo g wt we vs env Q xs S1
def wYes : WT := fun _ S Q => Q true S
theorem out_wipe (σ : L2.St) (vs : List Nat) : Out vs σ (wipe σ vs) := ⟨wipe_length σ vs, fun j h => by rw [wipe_get, if_neg (fun z => h z.1)]⟩
def DTs (X : Cx) (G : Gd) (ifs : List Expr) (w : WT) : Prop := ∃ t, PTs X ifs t ∧ SndT X.K G t w
theorem DTs.pt {ifs : List Expr} (h : DTs X G ifs wt) : PTs X ifs (tOfT X.K G wt) := let ⟨_, p, s⟩ := h; ⟨fun pins s0 σ H Q I hw => let ⟨F, S, env, Qp, at_, q, post⟩ := hw; p.run pins s0 σ H Q I (s at_ q post)⟩
theorem dts_nil : DTs X G [] wYes := ⟨_, pts_nil, fun at_ hw post => post true _ _ at_.ok (Fr.refl _ _) hw⟩
theorem dts_one (h : DT X G c wt) : DTs X G [c] wt := let ⟨_, p, s⟩ := h; ⟨_, pts_one p, s⟩
theorem snd_lc {K : PySem.W.Frag} {ti : TI} {wi : WI} {g : WG} {we : WE} {vs : List Nat} (si : SndI K G ti wi) : SndE K G (tLc ti (tOfG K G g vs) (tOfT K G wt) (tOfE K G we) vs) (wLc wi g wt we vs) := by
  intro F S H env σ Q Q' at_ hw post
  refine si at_ hw fun J H1 xs S1 ok1 f1 wk ⟨I, h0, turn⟩ => ?_
  intro D hD
  obtain ⟨sD, nF⟩ := ok1.free hD
  have mF : ∀ S2 H2, Mv F S1 H1 (fun a => F a ∨ a = D) S2 H2 → True := fun _ _ _ => trivial
  have mv0 : Mv F S1 H1 (fun a => F a ∨ a = D) S1 H1 := fun a o e1 e2 e3 => ⟨e1, e2, fun z => z.elim e3 (ne_of_none e1 hD)⟩
  have wk := wk (fun a => F a ∨ a = D) S1 H1 mv0
  have mv1 : Mv F S1 H1 (fun a => F a ∨ a = D) S1 (upd H1 D (.lst [])) := fun a o e1 e2 e3 => ⟨by rw [upd_ne (ne_of_none e1 hD)]; exact e1, e2, fun z => z.elim e3 (ne_of_none e1 hD)⟩
  have okD : Ok K (fun a => F a ∨ a = D) S1 (upd H1 D (.lst [])) := by
    refine ⟨fun a c e => ?_, fun a ha => ?_⟩
    · obtain ⟨n1, r1⟩ := ok1.cells a c e
      obtain ⟨o, eo⟩ := r1.at
      exact ⟨fun z => z.elim n1 (ne_of_none eo hD), r1.mv mv1 fun u q => by rw [upd_ne (ne_of_none eo hD)]; exact q⟩
    · rcases ha with ha | rfl
      · obtain ⟨⟨o, eo⟩, e⟩ := ok1.hid a ha
        exact ⟨⟨o, by rw [upd_ne (ne_of_none eo hD)]; exact eo⟩, e⟩
      · exact ⟨⟨_, upd_same⟩, sD⟩
  have frD : Fr S1 H1 S1 (upd H1 D (.lst [])) := Fr.new ok1 hD
  have at1 := at_.to ok1 f1
  refine ⟨fun i m H2 => ∃ S2 acc us, Ok K (fun a => F a ∨ a = D) S2 H2 ∧ Fr S1 H1 S2 H2 ∧ H2 D = some (.lst us) ∧ RepDs K (fun a => F a ∨ a = D) S2 H2 acc us ∧ RelE K (fun a => F a ∨ a = D) S2 H2 (wipeD env vs) (wipe σ vs) ∧ I i acc S2 ∧ i + m = xs.length + 1,
    ⟨xs.length + 1, S1, [], [], okD, frD, upd_same, rfl, (at1.en.wipe vs).mv mv1, h0, by omega⟩, ?_⟩
  rintro i m H2 ⟨S2, acc, us, ok2, f2, eD, rs, en2, hI, hm⟩
  have t2 := turn i acc S2 hI
  cases e : xs[i]? with
  | none =>
    rw [e] at t2
    refine .inl ⟨wk.stop i S2 H2 e ok2 f2, ?_⟩
    have mvB : Mv (fun a => F a ∨ a = D) S2 H2 F S2 H2 := fun a o e1 e2 e3 => ⟨e1, e2, fun z => e3 (.inl z)⟩
    refine post (.ref D) H2 (.lst acc) S2 ?_ (f1.trans f2) ?_ t2
    · refine ⟨fun a c ec => ?_, fun a ha => ?_⟩
      · obtain ⟨n1, r1⟩ := ok2.cells a c ec
        exact ⟨fun z => n1 (.inl z), r1.mv mvB fun _ q => q⟩
      · exact ok2.hid a (.inl ha)
    · exact ⟨D, us, rfl, .inl ⟨(ok2.hid D (.inr rfl)).2, nF, .inl eD⟩, RepDs.mv mvB _ _ rs⟩
  | some x =>
    rw [e] at t2
    have hi : i < xs.length := (List.getElem?_eq_some_iff.mp e).1
    obtain ⟨g1, g2⟩ := wk.go i x S2 H2 e ok2 f2
    refine .inr ⟨g1, fun H3 => ∃ S3 acc us, Ok K (fun a => F a ∨ a = D) S3 H3 ∧ Fr S1 H1 S3 H3 ∧ H3 D = some (.lst us) ∧ RepDs K (fun a => F a ∨ a = D) S3 H3 acc us ∧ RelE K (fun a => F a ∨ a = D) S3 H3 (wipeD env vs) (wipe σ vs) ∧ I (i + 1) acc S3,
      fun H3 ⟨S3, acc, us, h1, h2, h3, h4, h5, h6⟩ => ⟨m - 1, by omega, S3, acc, us, h1, h2, h3, h4, h5, h6, by omega⟩, fun v H3 y => ?_⟩
    obtain ⟨ok3, f3, r3⟩ := g2 v H3 y
    have at3 : At K G (fun a => F a ∨ a = D) S2 H3 (wipeD env vs) (wipe σ vs) := ⟨ok3, en2.fr f3, G.cl at1.g (f2.trans f3)⟩
    refine ⟨_, S2, _, x, _, at3, r3, t2, fun {env4 S4 σ4 H4} a4 f4 o4 q4 => ?_⟩
    refine ⟨by rw [o4.wipe]; exact (out_wipe σ vs).wipe, ?_⟩
    refine ⟨_, S4, env4, _, a4, q4, fun k H5 S5 ok5 f5 q5 => ?_⟩
    have f35 := (f3.trans f4).trans f5
    cases k with
    | false =>
      refine iteF ?_
      exact ⟨S5, acc, us, ok5, f2.trans f35, (f35 D _ eD (ok2.hid D (.inr rfl)).2).1, RepDs.mv f35.mv _ _ rs, en2.fr f35, q5⟩
    | true =>
      refine iteT ?_
      refine ⟨_, S5, env4, _, a4.to ok5 f5, q5, fun u H6 d6 S6 ok6 f6 r6 q6 => ?_⟩
      have f36 := f35.trans f6
      have eD6 := (f36 D _ eD (ok2.hid D (.inr rfl)).2).1
      have sD6 := (ok6.hid D (.inr rfl)).2
      have mvU : ∀ o, Mv (fun a => F a ∨ a = D) S6 H6 (fun a => F a ∨ a = D) S6 (upd H6 D o) := fun o a o' e1 e2 e3 => ⟨by rw [upd_ne (fun z => e3 (.inr z))]; exact e1, e2, e3⟩
      refine ⟨us, eD6, by rw [← rs.length]; exact q6.1, S6, acc ++ [d6], us ++ [u], ?_, ?_, upd_same, ?_, (en2.fr f36).mv (mvU _), q6.2⟩
      · refine ⟨fun a c ec => ?_, fun a ha => ?_⟩
        · obtain ⟨n1, r1⟩ := ok6.cells a c ec
          exact ⟨n1, r1.mv (mvU _) fun _ q => by rw [upd_ne (fun z => n1 (.inr z))]; exact q⟩
        · obtain ⟨⟨o, eo⟩, es⟩ := ok6.hid a ha
          by_cases hz : a = D
          · subst hz; exact ⟨⟨_, upd_same⟩, es⟩
          · exact ⟨⟨o, by rw [upd_ne hz]; exact eo⟩, es⟩
      · intro a o e1 e2
        obtain ⟨x1, x2⟩ := (f2.trans f36) a o e1 e2
        exact ⟨by rw [upd_ne (ne_of_none e1 hD)]; exact x1, x2⟩
      · exact RepDs.append (RepDs.mv (mvU _) _ _ (RepDs.mv f36.mv _ _ rs)) (RepDs.one (RepD.mv (mvU _) _ _ r6))
theorem de_lc {elt tg iter : Expr} {ifs : List Expr} {scope : Scope} {own : List (Str × Nat)} {wi : WI} {g : WG} {we : WE} (hc : X.calm = true) (hN : X.N.Nodup) (hi : DI X G tg iter wi) (ok : BlkOk X.N X.env.scope scope own)
    (hg : ∀ (s : Shared) (H : Hp) (C : Addr) (cl : List (Str × Addr)) (fp : List Addr), DGv (X.blk s H scope (compEnvC scope cl C X.env) fp) G tg g (own.map (·.2)))
    (ht : ∀ (s : Shared) (H : Hp) (C : Addr) (cl : List (Str × Addr)) (fp : List Addr), DTs (X.blk s H scope (compEnvC scope cl C X.env) fp) G ifs wt)
    (he : ∀ (s : Shared) (H : Hp) (C : Addr) (cl : List (Str × Addr)) (fp : List Addr), DE (X.blk s H scope (compEnvC scope cl C X.env) fp) G elt we) (hs : ∀ x, foldedSetIterable iter X.env x = pure x := by intro _; rfl) :
    DE X G (.ListComp elt [⟨tg, iter, ifs, 0⟩] scope pos) (wLc wi g wt we (own.map (·.2))) :=
  let ⟨_, pi, si⟩ := hi; ⟨_, pe_lc hc hN pi ok (fun s H C cl fp => (hg s H C cl fp).pg) (fun s H C cl fp => (ht s H C cl fp).pt) (fun s H C cl fp => (he s H C cl fp).pe) hs, snd_lc si⟩
/-- x = [..] on one line, x a local -/
theorem ds_setLc {i : Nat} {y : Str} {py : Pos} {elt tg iter : Expr} {ifs : List Expr} {scope : Scope} {own : List (Str × Nat)} {spos : Pos} {wi : WI} {g : WG} {we : WE} (hc : X.calm = true) (hN : X.N.Nodup) (hi : DI X G tg iter wi) (ok : BlkOk X.N X.env.scope scope own)
    (hg : ∀ (s : Shared) (H : Hp) (C : Addr) (cl : List (Str × Addr)) (fp : List Addr), DGv (X.blk s H scope (compEnvC scope cl C X.env) fp) G tg g (own.map (·.2)))
    (ht : ∀ (s : Shared) (H : Hp) (C : Addr) (cl : List (Str × Addr)) (fp : List Addr), DTs (X.blk s H scope (compEnvC scope cl C X.env) fp) G ifs wt)
    (he : ∀ (s : Shared) (H : Hp) (C : Addr) (cl : List (Str × Addr)) (fp : List Addr), DE (X.blk s H scope (compEnvC scope cl C X.env) fp) G elt we)
    (hsw : swapsWith (.ListComp elt [⟨tg, iter, ifs, 0⟩] scope pos) (some (.Name y py)) spos.line X.env = pure true) (hy : X.N[i]? = some y := by rfl) (hyl : X.env.scope.names.lookup y = some .local := by rfl) (hs : ∀ x, foldedSetIterable iter X.env x = pure x := by intro _; rfl) :
    DS X G (.Assign [.Name y py] (.ListComp elt [⟨tg, iter, ifs, 0⟩] scope pos) spos) (wAsg (wLc wi g wt we (own.map (·.2))) (gwName i)) :=
  let ⟨_, pi, si⟩ := hi; ⟨_, ps_setLc hc hN hy hyl hsw pi ok (fun s H C cl fp => (hg s H C cl fp).pg) (fun s H C cl fp => (ht s H C cl fp).pt) (fun s H C cl fp => (he s H C cl fp).pe) hs,
    snd_asg (vs := [i]) (snd_lc si) fun at_ r hw post => post (at_.set i r) (Fr.refl _ _) (Out.set _ i _) hw⟩
end

/-! ### data out of cells -/
def Conv (K : PySem.W.Frag) (S : Store) (d : D) (S2 : Store) (d2 : D) : Prop := Sub S2 S ∧ ∀ F H v, Ok K F S H → RepD K F S H d v → RepD K F S2 H d2 v
theorem Conv.refl (K : PySem.W.Frag) (S : Store) (d : D) : Conv K S d S d := ⟨Sub.refl S, fun _ _ _ _ h => h⟩
theorem Conv.sub {K : PySem.W.Frag} {S S2 : Store} {d : D} (s : Sub S2 S) : Conv K S d S2 d := ⟨s, fun _ _ _ _ h => RepD.mv s.mv _ _ h⟩
theorem Conv.lst {K : PySem.W.Frag} {S : Store} {a : Addr} {xs : List D} (h : S a = some (.lst xs)) : Conv K S (.cel a) (sdel S a) (.lst xs) := ⟨sub_del S a, fun F H v ok r => by
  obtain ⟨n, vs, hv, rs⟩ := ok.cells a _ h
  exact ⟨a, vs, r, .inl ⟨sdel_same, n, .inl hv⟩, RepDs.mv (sub_del S a).mv _ _ rs⟩⟩
theorem Conv.then_ {K : PySem.W.Frag} {S S2 S3 : Store} {d d2 d3 : D} (a : Conv K S d S2 d2) (b : Conv K S2 d2 S3 d3) : Conv K S d S3 d3 := ⟨b.1.trans a.1, fun F H v ok r => b.2 F H v (a.1.ok ok) (a.2 F H v ok r)⟩
/-- behind a def: the store may forget cells, the value may turn from cells to data -/
def Fin (K : PySem.W.Frag) (Q : PQ) : PQ := fun d S => ∃ S2 d2, Conv K S d S2 d2 ∧ Q d2 S2
theorem Fin.here {K : PySem.W.Frag} {Q : PQ} {d : D} {S : Store} (h : Q d S) : Fin K Q d S := ⟨S, d, Conv.refl K S d, h⟩
theorem Fin.sub {K : PySem.W.Frag} {Q : PQ} {d : D} {S S2 : Store} (s : Sub S2 S) (h : Q d S2) : Fin K Q d S := ⟨S2, d, Conv.sub s, h⟩

/-! ### defs -/
abbrev PSpec := List D → Store → PQ → Prop
def spP (K : PySem.W.Frag) (p : PSpec) : Sp := fun vs H Q _ => ∃ F S ds Qp, Ok K F S H ∧ RepDs K F S H ds vs ∧ p ds S Qp ∧ Post K F S H Qp Q
def startD (N : List Str) (ds : List D) : En := ds.map some ++ List.replicate (N.length - ds.length) none
theorem relE_start {K : PySem.W.Frag} {F : Addr → Prop} {S : Store} {H : Hp} {ds : List D} {vs : List V} (N : List Str) (r : RepDs K F S H ds vs) : RelE K F S H (startD N ds) (L2.start N vs) := by
  refine ⟨?_, fun i d h => ?_⟩
  · unfold startD L2.start
    simp [r.length]
  · unfold startD at h
    unfold L2.start
    by_cases hi : i < ds.length
    · rw [List.getElem?_append_left (by simpa using hi), List.getElem?_map] at h
      cases e : ds[i]? with
      | none => rw [e] at h; cases h
      | some d' =>
        rw [e] at h
        cases h
        obtain ⟨v, h1, h2⟩ := r.get e
        exact ⟨v, by rw [List.getElem?_append_left (by simpa [← r.length] using hi), List.getElem?_map, h1]; rfl, h2⟩
    · rw [List.getElem?_append_right (by simpa using hi), List.getElem?_replicate] at h
      split at h <;> cases h
section
variable {P : Program} {w : World} {K : PySem.W.Frag} {mg : Str → Option Value} {base : Heap}
/-- THE RULE for a def: its body's derivation, and the pure goal -/
theorem fn_pure {x qual : Str} {st : Stmt} {f : Addr} {fd : FuncData} {N ps : List Str} {k : Nat} {p : PSpec} (Fn : Fun K x qual st f fd) (Sc : FnScope N ps (defScope st)) (len : ∀ ds S Q, p ds S Q → ds.length = ps.length)
    (hbody : ∀ (cdv : Value) (A : Around) (outer : List Env) (s : Shared) (H : Hp) (E : XK), Room k (A.deeper (envOfC qual (defScope st) s.heap.objs.size f cdv)) →
      ∃ wb, DSs (cxOf CX0 P w K mg base N qual (defScope st) f cdv A outer s H E).nox gTrue (defBody st) wb ∧ ∀ ds S Q, p ds S Q → wb { nx := fun _ S' => Fin K Q .non S', rt := Fin K Q } (startD N ds) S) : FnOk P w K mg base CX0 (k + 1) f fd ps (spP K p) := by
  refine Fn.ok Sc (fun vs H Q E ⟨F, S, ds, Qp, ok, rs, hp, post⟩ => by rw [← rs.length]; exact len _ _ _ hp) fun cdv A outer s H vs Q E hr ⟨F, S, ds, Qp, ok, rs, hp, post⟩ => ?_
  obtain ⟨wb, ⟨t, pt, st⟩, hb⟩ := hbody cdv A outer s H E hr
  refine ⟨t, pt, st ⟨ok, relE_start N rs, trivial⟩ (hb ds S Qp hp) ⟨?_, ?_, fun _ _ z => z.elim, fun _ _ z => z.elim⟩⟩
  · rintro env' S' σ' H' a f ⟨S2, d2, cv, q⟩
    exact post .non H' d2 S2 (cv.1.ok a.ok) (f.trans cv.1.fr) (cv.2 F H' _ a.ok rfl) q
  · rintro v H' d S' ok' f r ⟨S2, d2, cv, q⟩
    exact post v H' d2 S2 (cv.1.ok ok') (f.trans cv.1.fr) (cv.2 F H' v ok' r) q
end
section
variable {X : Cx} {G : Gd} {a b c e : Expr} {es : List Expr} {wa wb wc : WE} {pos : Pos} {wt wu : WT} {wr : WA}
def wCall (p : PSpec) (wr : WA) : WE := fun env S Q => wr env S fun ds S1 => p ds S1 Q
theorem snd_call {K : PySem.W.Frag} {p : PSpec} {t : TA} {E : XK} (h : SndA K G t wr) : SndE K G (tCall (spP K p) [] E t) (wCall p wr) := fun {F S H env σ Q Q'} at_ hw post => h at_ hw fun vs H1 ds S1 ok1 f1 r1 q1 => by
  show spP K p (vs ++ []) H1 Q' E
  rw [List.append_nil]
  exact ⟨F, S1, ds, Q, ok1, r1, q1, post.fr f1⟩
theorem de_call {k : Nat} {f : Addr} {fd : FuncData} {ps : List Str} {p : PSpec} {x : Str} {px : Pos} (Fn : FnOk X.prog X.w X.K X.mg X.base CX0 k f fd ps (spP X.K p)) (hr : Room k X.A) (hm : X.mg x = some (.ref f)) (hk : PySem.W.keepIn X.K (.ref f) = true) (hb : Binds X.K fd ps []) (ha : DA X G (e :: es) wr)
    (hg : Gl X x := by rfl) (hdb : (x == ("__debug__" : Str)) = false := by decide) (he : starEach (e :: es) X.env = (false, eval e X.env) :: starEach es X.env := by rfl) (hpl : (backTo pos (starEach es X.env)).any (·.1) = false := by rfl) :
    DE X G (.Call (.Name x px) (e :: es) [] pos) (wCall p wr) := let ⟨_, pa, sa⟩ := ha; ⟨_, pe_call (E := E0) Fn hr hg hm hk hb .nil pass0 pa hdb he hpl, snd_call sa⟩
theorem de_call0 {k : Nat} {f : Addr} {fd : FuncData} {ps : List Str} {p : PSpec} {x : Str} {px : Pos} (Fn : FnOk X.prog X.w X.K X.mg X.base CX0 k f fd ps (spP X.K p)) (hr : Room k X.A) (hm : X.mg x = some (.ref f)) (hk : PySem.W.keepIn X.K (.ref f) = true) (hb : Binds X.K fd ps [])
    (hg : Gl X x := by rfl) (hdb : (x == ("__debug__" : Str)) = false := by decide) : DE X G (.Call (.Name x px) [] [] pos) (wCall p wNil) := ⟨_, pe_call0 (E := E0) Fn hr hg hm hk hb .nil pass0 hdb, snd_call fun at_ hw post => post [] _ [] _ at_.ok (Fr.refl _ _) rfl hw⟩
/-- a value turned from cells to data -/
def wFrz (K : PySem.W.Frag) (wa : WE) : WE := fun env S Q => wa env S fun d S1 => Fin K Q d S1
theorem de_frz (h : DE X G e wa) : DE X G e (wFrz X.K wa) := let ⟨_, p, s⟩ := h; ⟨_, p, fun {F S H env σ Q Q'} at_ hw post => s at_ hw fun v H1 d S1 ok1 f1 r1 ⟨S2, d2, cv, q⟩ => post v H1 d2 S2 (cv.1.ok ok1) (f1.trans cv.1.fr) (cv.2 F H1 v ok1 r1) q⟩

/-! ### texts -/
def fAddS (x y : D) (S : Store) (Q : PQ) : Prop := match x, y with
  | .str i, .str j => i.length + j.length ≤ sizeLine ∧ Q (.str (i ++ j)) S
  | _, _ => False
theorem de_addS (ha : DE X G a wa) (hb : DE X G b wb) : DE X G (.BinOp a .Add b pos) (wOp fAddS wa wb) := de_op op_add_str (fun {F S H x y a b Q Q'} ok r1 r2 hf post => by
  unfold fAddS at hf
  split at hf
  · rename_i i j
    exact ⟨i, j, r1, r2, hf.1, post.here ok (d := .str (i ++ j)) rfl hf.2⟩
  · exact hf.elim) ha hb
def fIxS (x y : D) (S : Store) (Q : PQ) : Prop := match x, y with
  | .str z, .int i => z.length ≤ sizeLine ∧ match atI z.cps.toList i with
    | some c => Q (.str ⟨#[c]⟩) S
    | none => False
  | _, _ => False
theorem de_ixS (ha : DE X G a wa) (hb : DE X G b wb) (hs : PlainIx b := by exact fun _ _ => rfl) : DE X G (.Subscript a b pos) (wOp fIxS wa wb) := de_ix ix_str (fun {F S H x y a b Q Q'} ok r1 r2 hf post => by
  unfold fIxS at hf
  split at hf
  · rename_i z i
    obtain ⟨hl, hf⟩ := hf
    split at hf
    · rename_i c ec
      exact ⟨z, i, c, r1, r2, hl, ec, post.here ok (d := .str ⟨#[c]⟩) rfl hf⟩
    · exact hf.elim
  · exact hf.elim) ha hb hs
def fInS (x y : D) (S : Store) (Q : PQ) : Prop := match x, y with
  | .str s, .str z => ∃ c, s = ⟨#[c]⟩ ∧ Q (.bl (decide (c ∈ z.cps.toList))) S
  | _, _ => False
theorem sr_inS {K : PySem.W.Frag} : SndR K (fun x y H Q => ∃ (c : Nat) (z : Str), x = .str ⟨#[c]⟩ ∧ y = .str z ∧ Q (.bl (decide (c ∈ z.cps.toList))) H) fInS := fun {F S H x y a b Q Q'} ok r1 r2 hf post => by
  unfold fInS at hf
  split at hf
  · rename_i s z
    obtain ⟨c, rfl, q⟩ := hf
    exact ⟨c, z, r1, r2, post.here ok (d := .bl _) rfl q⟩
  · exact hf.elim
theorem de_inS (ha : DE X G a wa) (hb : DE X G b wb) (hm : behindInMarks .In b = false := by rfl) : DE X G (.Compare a [.In] [b] pos) (wOp fInS wa wb) := de_cmp op_in_sign sr_inS ha hb hm
def fMulS (x y : D) (S : Store) (Q : PQ) : Prop := match x, y with
  | .str z, .int n => MulOk z n ∧ Q (.str (Txt.mul z n)) S
  | _, _ => False
theorem op_mulS : OpR X (binaryOp .Mult) (fun x y H Q => ∃ z n, x = .str z ∧ y = .int n ∧ MulOk z n ∧ Q (.str (Txt.mul z n)) H) := by
  intro pins s σ H x y v u Q I rx ry h
  obtain ⟨z, n, rfl, rfl, hk, q⟩ := h
  obtain ⟨t, rfl⟩ := rx
  obtain ⟨t', rfl⟩ := ry
  exact SB.mul hk fun t2 k => ⟨.str _, H, I.tok _, ⟨_, rfl⟩, q⟩
theorem de_mulS (ha : DE X G a wa) (hb : DE X G b wb) : DE X G (.BinOp a .Mult b pos) (wOp fMulS wa wb) := de_op op_mulS (fun {F S H x y a b Q Q'} ok r1 r2 hf post => by
  unfold fMulS at hf
  split at hf
  · rename_i z n
    exact ⟨z, n, r1, r2, hf.1, post.here ok (d := .str _) rfl hf.2⟩
  · exact hf.elim) ha hb
/-- slices -/
abbrev WO := En → Store → (Option Int → Store → Prop) → Prop
def SndO (K : PySem.W.Frag) (G : Gd) (t : TO) (w : WO) : Prop := ∀ {F : Addr → Prop} {S : Store} {H : Hp} {env : En} {σ : L2.St} {Q : Option Int → Store → Prop} {Q' : Option Int → Hp → Prop}, At K G F S H env σ → w env S Q → (∀ o H' S', Ok K F S' H' → Fr S H S' H' → Q o S' → Q' o H') → t σ H Q'
def DO (X : Cx) (G : Gd) (e : Option Expr) (w : WO) : Prop := ∃ t, PO X e t ∧ SndO X.K G t w
def wNoPart : WO := fun _ S Q => Q none S
def wPart (wa : WE) : WO := fun env S Q => wa env S fun d S1 => match d with
  | .int i => Q (some i) S1
  | _ => False
theorem do_none : DO X G none wNoPart := ⟨_, po_none, fun at_ hw post => post none _ _ at_.ok (Fr.refl _ _) hw⟩
theorem do_some (h : DE X G e wa) : DO X G (some e) (wPart wa) := let ⟨_, p, s⟩ := h; ⟨_, po_some p, fun {F S H env σ Q Q'} at_ hw post => s at_ hw fun v H1 d S1 ok1 f1 r1 q1 => by
  cases d <;> first | exact q1.elim | skip
  rename_i i
  exact ⟨i, r1, post _ H1 S1 ok1 f1 q1⟩⟩
def SndSl (K : PySem.W.Frag) (r : V → Option Int → Option Int → Hp → VK → Prop) (f : D → Option Int → Option Int → Store → PQ → Prop) : Prop := ∀ {F : Addr → Prop} {S : Store} {H : Hp} {x : V} {a : D} {lo hi : Option Int} {Q : PQ} {Q' : VK}, Ok K F S H → RepD K F S H a x → f a lo hi S Q → Post K F S H Q Q' → r x lo hi H Q'
def wSl (f : D → Option Int → Option Int → Store → PQ → Prop) (wa : WE) (wl wh : WO) : WE := fun env S Q => wa env S fun x S1 => wl env S1 fun lo S2 => wh env S2 fun hi S3 => f x lo hi S3 Q
theorem de_slice {r : V → Option Int → Option Int → Hp → VK → Prop} {f : D → Option Int → Option Int → Store → PQ → Prop} {lo hi : Option Expr} {p2 : Pos} {wl wh : WO} (hr : SlR X r) (hf : SndSl X.K r f) (he : DE X G e wa) (hl : DO X G lo wl) (hu : DO X G hi wh) : DE X G (.Subscript e (.Slice lo hi none p2) pos) (wSl f wa wl wh) :=
  let ⟨_, p1, s1⟩ := he; let ⟨_, p2, s2⟩ := hl; let ⟨_, p3, s3⟩ := hu; ⟨_, pe_slice hr p1 p2 p3, fun {F S H env σ Q Q'} at_ hw post => s1 at_ hw fun v H1 d S1 ok1 f1 r1 q1 => s2 (at_.to ok1 f1) q1 fun o H2 S2 ok2 f2 q2 => s3 (at_.to ok2 (f1.trans f2)) q2 fun o' H3 S3 ok3 f3 q3 =>
    hf ok3 (RepD.mv (f2.trans f3).mv _ _ r1) q3 (post.fr ((f1.trans f2).trans f3))⟩
def fSlS (x : D) (lo hi : Option Int) (S : Store) (Q : PQ) : Prop := match x with
  | .str z => z.length ≤ sizeLine ∧ Q (.str (cutS z lo hi)) S
  | _ => False
theorem de_slS {lo hi : Option Expr} {p2 : Pos} {wl wh : WO} (he : DE X G e wa) (hl : DO X G lo wl) (hu : DO X G hi wh) : DE X G (.Subscript e (.Slice lo hi none p2) pos) (wSl fSlS wa wl wh) := de_slice sl_str (fun {F S H x a lo hi Q Q'} ok r1 hf post => by
  unfold fSlS at hf
  split at hf
  · rename_i z
    exact ⟨z, r1, hf.1, post.here ok (d := .str _) rfl hf.2⟩
  · exact hf.elim) he hl hu
def cutP (xs : List D) (lo hi : Option Int) : List D := (xs.drop (HT.sIx xs.length 0 lo)).take (HT.sIx xs.length xs.length hi - HT.sIx xs.length 0 lo)
theorem rep_cut {K : PySem.W.Frag} {F : Addr → Prop} {S : Store} {H : Hp} {xs : List D} {vs : List V} (rs : RepDs K F S H xs vs) (lo hi : Option Int) : RepDs K F S H (cutP xs lo hi) (cutV vs lo hi) := by
  unfold cutP cutV
  rw [rs.length]
  exact RepDs.take _ (RepDs.drop _ rs)
def fSlL (x : D) (lo hi : Option Int) (S : Store) (Q : PQ) : Prop := match lstOf S x with
  | some xs => Q (.lst (cutP xs lo hi)) S
  | none => False
theorem de_slL {lo hi : Option Expr} {p2 : Pos} {wl wh : WO} (he : DE X G e wa) (hl : DO X G lo wl) (hu : DO X G hi wh) : DE X G (.Subscript e (.Slice lo hi none p2) pos) (wSl fSlL wa wl wh) := de_slice sl_list (fun {F S H x a lo hi Q Q'} ok r1 hf post => by
  unfold fSlL at hf
  split at hf
  · rename_i xs e
    obtain ⟨p, vs, rfl, hs, rs⟩ := lst_of ok r1 e
    exact ⟨p, vs, rfl, hs, fun q hq => post.newL ok (rep_cut rs lo hi) hf hq⟩
  · exact hf.elim) he hl hu

/-! ### built-ins -/
def fLenS (xs : List D) (S : Store) (Q : PQ) : Prop := match xs with
  | [.str z] => z.length ≤ sizeLine ∧ Q (.int z.length) S
  | _ => False
def fLenL (xs : List D) (S : Store) (Q : PQ) : Prop := match xs with
  | [d] => match seqOf S d with
    | some ys => Q (.int ys.length) S
    | none => False
  | _ => False
theorem one_rep {K : PySem.W.Frag} {F : Addr → Prop} {S : Store} {H : Hp} {d : D} {vs : List V} (r : RepDs K F S H [d] vs) : ∃ v, vs = [v] ∧ RepD K F S H d v := by
  obtain ⟨v, _, rfl, h, z⟩ := r
  cases z
  exact ⟨v, rfl, h⟩
theorem two_rep {K : PySem.W.Frag} {F : Addr → Prop} {S : Store} {H : Hp} {d e : D} {vs : List V} (r : RepDs K F S H [d, e] vs) : ∃ v u, vs = [v, u] ∧ RepD K F S H d v ∧ RepD K F S H e u := by
  obtain ⟨v, _, rfl, h, u, _, rfl, h', z⟩ := r
  cases z
  exact ⟨v, u, rfl, h, h'⟩
theorem sc_lenL {K : PySem.W.Frag} : SndC K (fun xs H Q => ∃ p ys, xs = [V.ref p] ∧ (SqL K H p ys ∨ SqT K H p ys) ∧ Q (.int ys.length) H) fLenL := fun {F S H xs as Q Q'} ok rs hf post => by
  unfold fLenL at hf
  split at hf
  · rename_i d
    split at hf
    · rename_i ys e
      obtain ⟨v, rfl, r⟩ := one_rep rs
      obtain ⟨p, vs, rfl, hs, rr⟩ := seq_of ok r e
      exact ⟨p, vs, rfl, hs, post.here ok (d := .int ys.length) (by show V.int _ = V.int _; rw [rr.length]) hf⟩
    · exact hf.elim
  · exact hf.elim
theorem de_lenL {p : Pos} (hm : X.mg "len" = none) (ha : DE X G e wa) (hg : Gl X "len" := by rfl) (he : starEach [e] X.env = (false, eval e X.env) :: starEach [] X.env := by rfl) (hpl : (backTo pos (starEach [] X.env)).any (·.1) = false := by rfl) : DE X G (.Call (.Name "len" p) [e] [] pos) (wCB fLenL (wCons wa wNil)) :=
  de_callB call_len_seq sc_lenL hm (da_cons ha da_nil he) PySem.boot_len hg (by decide) (by decide) he hpl
theorem de_lenS {p : Pos} (hm : X.mg "len" = none) (ha : DE X G e wa) (hg : Gl X "len" := by rfl) (he : starEach [e] X.env = (false, eval e X.env) :: starEach [] X.env := by rfl) (hpl : (backTo pos (starEach [] X.env)).any (·.1) = false := by rfl) : DE X G (.Call (.Name "len" p) [e] [] pos) (wCB fLenS (wCons wa wNil)) :=
  de_callB (r := fun xs H Q => ∃ z : Str, xs = [V.str z] ∧ z.length ≤ sizeLine ∧ Q (.int z.length) H) call_len_str (fun {F S H xs as Q Q'} ok rs hf post => by
    unfold fLenS at hf
    split at hf
    · rename_i z
      obtain ⟨v, rfl, r⟩ := one_rep rs
      cases r
      exact ⟨z, rfl, hf.1, post.here ok (d := .int z.length) rfl hf.2⟩
    · exact hf.elim) hm (da_cons ha da_nil he) PySem.boot_len hg (by decide) (by decide) he hpl
/-- all([..]) of truths -/
def blsOf : List D → Option (List Bool)
  | [] => some []
  | .bl b :: r => (blsOf r).map (b :: ·)
  | _ :: _ => none
theorem blsOf_map : ∀ bs : List Bool, blsOf (bs.map D.bl) = some bs
  | [] => rfl
  | b :: r => by show (blsOf (r.map D.bl)).map (b :: ·) = _; rw [blsOf_map r]; rfl
theorem blsOf_is : ∀ {ds : List D} {bs : List Bool}, blsOf ds = some bs → ds = bs.map D.bl
  | [], bs, h => by cases h; rfl
  | d :: r, bs, h => by
    cases d <;> simp only [blsOf, reduceCtorEq] at h
    rename_i b
    cases e : blsOf r with
    | none => rw [e] at h; cases h
    | some cs => rw [e] at h; cases h; rw [blsOf_is e]; rfl
def fAll (xs : List D) (S : Store) (Q : PQ) : Prop := match xs with
  | [d] => match lstOf S d with
    | some ys => match blsOf ys with
      | some bs => Q (.bl (bs.all id)) S
      | none => False
    | none => False
  | _ => False
theorem sc_all {K : PySem.W.Frag} : SndC K (rAll K) fAll := fun {F S H xs as Q Q'} ok rs hf post => by
  unfold fAll at hf
  split at hf
  · rename_i d
    split at hf
    · rename_i ys e
      split at hf
      · rename_i bs eb
        obtain ⟨v, rfl, r⟩ := one_rep rs
        obtain ⟨p, vs, rfl, hs, rr⟩ := lst_of ok r e
        rw [blsOf_is eb] at rr
        have ev := rr.bls
        subst ev
        exact ⟨p, bs, rfl, hs, post.here ok (d := .bl _) rfl hf⟩
      · exact hf.elim
    · exact hf.elim
  · exact hf.elim
theorem de_all {p : Pos} (hc : X.calm = true) (hm : X.mg "all" = none) (ha : DE X G e wa) (hg : Gl X "all" := by rfl) (he : starEach [e] X.env = (false, eval e X.env) :: starEach [] X.env := by rfl) (hpl : (backTo pos (starEach [] X.env)).any (·.1) = false := by rfl) : DE X G (.Call (.Name "all" p) [e] [] pos) (wCB fAll (wCons wa wNil)) :=
  de_callB (cr_all hc) sc_all hm (da_cons ha da_nil he) (by decide +kernel) hg (by decide) (by decide) he hpl
def fList (xs : List D) (S : Store) (Q : PQ) : Prop := match xs with
  | [d] => match seqOf S d with
    | some ys => Q (.lst ys) S
    | none => False
  | _ => False
end
end Pz

set_option Elab.async false
set_option linter.all false
set_option maxRecDepth 100000
set_option maxHeartbeats 4000000
namespace Pz
open PySem PySem.Spec PyProof.Rows L2

section
variable {P : Program} {w : World} {K : PySem.W.Frag} {mg : Str → Option Value} {base : Heap}
/-- a def of the top (defaults dvs, keyword-only defaults kws) -/
theorem fn_pureD {x qual : Str} {params : Arguments} {body : List Stmt} {scope : Scope} {dvs : List V} {kws : List (Str × V)} {f : Addr} {fd : FuncData} {N ps : List Str} {k : Nat} {p : PSpec} (Fn : FunD K x qual params body scope dvs kws f fd) (Sc : FnScope N ps scope) (len : ∀ ds S Q, p ds S Q → ds.length = ps.length)
    (hbody : ∀ (cdv : Value) (A : Around) (outer : List Env) (s : Shared) (H : Hp) (E : XK), Room k (A.deeper (envOfC qual scope s.heap.objs.size f cdv)) →
      ∃ wb, DSs (cxOf CX0 P w K mg base N qual scope f cdv A outer s H E).nox gTrue body wb ∧ ∀ ds S Q, p ds S Q → wb { nx := fun _ S' => Fin K Q .non S', rt := Fin K Q } (startD N ds) S) : FnOk P w K mg base CX0 (k + 1) f fd ps (spP K p) := by
  refine Fn.ok Sc (fun vs H Q E ⟨F, S, ds, Qp, ok, rs, hp, post⟩ => by rw [← rs.length]; exact len _ _ _ hp) fun cdv A outer s H vs Q E hr ⟨F, S, ds, Qp, ok, rs, hp, post⟩ => ?_
  obtain ⟨wb, ⟨t, pt, st⟩, hb⟩ := hbody cdv A outer s H E hr
  refine ⟨t, pt.nox, st ⟨ok, relE_start N rs, trivial⟩ (hb ds S Qp hp) ⟨?_, ?_, fun _ _ z => z.elim, fun _ _ z => z.elim⟩⟩
  · rintro env' S' σ' H' a f ⟨S2, d2, cv, q⟩
    exact post .non H' d2 S2 (cv.1.ok a.ok) (f.trans cv.1.fr) (cv.2 F H' _ a.ok rfl) q
  · rintro v H' d S' ok' f r ⟨S2, d2, cv, q⟩
    exact post v H' d2 S2 (cv.1.ok ok') (f.trans cv.1.fr) (cv.2 F H' v ok' r) q
end
/-- a def and how it is called: what a caller needs -/
structure Callee (P : Program) (w : World) (K : PySem.W.Frag) (mg : Str → Option Value) (base : Heap) (k : Nat) (x : Str) (ps : List Str) (p : PSpec) : Prop where
  ex : ∃ f fd, FnOk P w K mg base CX0 k f fd ps (spP K p) ∧ mg x = some (.ref f) ∧ PySem.W.keepIn K (.ref f) = true ∧ Binds K fd ps []
section
variable {X : Cx} {G : Gd} {a b c e : Expr} {es : List Expr} {wa wb wc : WE} {pos : Pos} {wt wu : WT} {wr : WA}
theorem de_f {k : Nat} {ps : List Str} {p : PSpec} {x : Str} {px : Pos} (C : Callee X.prog X.w X.K X.mg X.base k x ps p) (hr : Room k X.A) (ha : DA X G (e :: es) wr)
    (hg : Gl X x := by rfl) (hdb : (x == ("__debug__" : Str)) = false := by decide) (he : starEach (e :: es) X.env = (false, eval e X.env) :: starEach es X.env := by rfl) (hpl : (backTo pos (starEach es X.env)).any (·.1) = false := by rfl) :
    DE X G (.Call (.Name x px) (e :: es) [] pos) (wCall p wr) := let ⟨f, fd, h1, h2, h3, h4⟩ := C.ex; de_call h1 hr h2 h3 h4 ha hg hdb he hpl
theorem de_f0 {k : Nat} {ps : List Str} {p : PSpec} {x : Str} {px : Pos} (C : Callee X.prog X.w X.K X.mg X.base k x ps p) (hr : Room k X.A)
    (hg : Gl X x := by rfl) (hdb : (x == ("__debug__" : Str)) = false := by decide) :
    DE X G (.Call (.Name x px) [] [] pos) (wCall p wNil) := let ⟨f, fd, h1, h2, h3, h4⟩ := C.ex; de_call0 h1 hr h2 h3 h4 hg hdb

/-! ### methods of built-in types -/
def isTy (T : String) (S : Store) : D → Prop
  | .str _ => T = "str"
  | .lst _ => T = "list"
  | .cel a => match S a with
    | some (.lst _) => T = "list"
    | some (.dT _ _) => T = "dict"
    | some (.dK _ _) => T = "dict"
    | _ => False
  | .dT _ _ => T = "dict"
  | .dK _ _ => T = "dict"
  | _ => False
theorem ty_rep {K : PySem.W.Frag} {F : Addr → Prop} {S : Store} {H : Hp} {d : D} {v : V} {T : String} (ok : Ok K F S H) (r : RepD K F S H d v) (h : isTy T S d) : tyV K T v H := by
  cases d <;> simp only [isTy] at h
  · cases r; exact h
  · rename_i a
    cases r
    split at h
    · rename_i xs e
      obtain ⟨_, vs, hv, _⟩ := ok.cells a _ e
      exact .inl ⟨h, vs, .inl (.inl hv)⟩
    · rename_i ks xs e
      obtain ⟨_, vs, hv, _⟩ := ok.cells a _ e
      exact .inr (.inr (.inl ⟨h, .inr ⟨_, hv⟩⟩))
    · rename_i ks xs e
      obtain ⟨_, vs, hv, _⟩ := ok.cells a _ e
      exact .inr (.inr (.inl ⟨h, .inl ⟨_, hv⟩⟩))
    · exact h.elim
  · obtain ⟨a, vs, rfl, hl, _⟩ := r
    exact .inl ⟨h, vs, hl.sq⟩
  · obtain ⟨a, vs, rfl, ⟨_, _, hv⟩, _⟩ := r
    exact .inr (.inr (.inl ⟨h, .inr ⟨_, hv⟩⟩))
  · obtain ⟨a, vs, rfl, ⟨_, _, hv⟩, _⟩ := r
    exact .inr (.inr (.inl ⟨h, .inl ⟨_, hv⟩⟩))
def wBM (T : String) (f : D → List D → Store → PQ → Prop) (wo : WE) (wr : WA) : WE := fun env S Q => wo env S fun x S1 => isTy T S1 x ∧ wr env S1 fun xs S2 => f x xs S2 Q
def wBM0 (T : String) (f : D → List D → Store → PQ → Prop) (wo : WE) : WE := fun env S Q => wo env S fun x S1 => isTy T S1 x ∧ f x [] S1 Q
theorem de_bm {o : Expr} {wo : WE} {name : Str} {apos cpos : Pos} {T id : String} {r : V → List V → Hp → VK → Prop} {f : D → List D → Store → PQ → Prop} (pa : PlainAttrs T) (slot : Slot T name id) (hty : typeOf (.builtin id) = pure (.type "method_descriptor")) (hm : MtR X id r) (hf : SndM X.K r f) (ho : DE X G o wo) (ha : DA X G (e :: es) wr)
    (hbase : attributeBase o name X.env (eval o X.env) = eval o X.env := by rfl)
    (hfew : ((backTo cpos (starEach (e :: es) X.env)).all (fun x => !x.1) && (backToKw cpos (keywordEach [] X.env)).all (fun x => x.1.isSome)
      && decide ((e :: es).length + ([] : List Keyword).length + (if ([] : List Keyword).isEmpty then 0 else 1) < 30)) = true := by rfl)
    (hline : (apos.endLine == cpos.line) = true := by rfl) (hs : starEach (e :: es) X.env = (false, eval e X.env) :: starEach es X.env := by rfl) (hplain : (backTo cpos (starEach es X.env)).any (·.1) = false := by rfl) :
    DE X G (.Call (.Attribute o name apos) (e :: es) [] cpos) (wBM T f wo wr) :=
  let ⟨_, p1, s1⟩ := ho; let ⟨_, p2, s2⟩ := ha; ⟨_, pe_bm pa slot hty hm p1 p2 hbase hfew hline hs hplain, fun {F S H env σ Q Q'} at_ hw post => s1 at_ hw fun x H1 dx S1 ok1 f1 r1 q1 =>
    ⟨ty_rep ok1 r1 q1.1, s2 (at_.to ok1 f1) q1.2 fun xs H2 ds S2 ok2 f2 r2 q2 => hf ok2 (RepD.mv f2.mv _ _ r1) r2 q2 (post.fr (f1.trans f2))⟩⟩
theorem de_bm0 {o : Expr} {wo : WE} {name : Str} {apos cpos : Pos} {T id : String} {r : V → List V → Hp → VK → Prop} {f : D → List D → Store → PQ → Prop} (pa : PlainAttrs T) (slot : Slot T name id) (hty : typeOf (.builtin id) = pure (.type "method_descriptor")) (hm : MtR X id r) (hf : SndM X.K r f) (ho : DE X G o wo)
    (hbase : attributeBase o name X.env (eval o X.env) = eval o X.env := by rfl) (hline : (apos.endLine == cpos.line) = true := by rfl) :
    DE X G (.Call (.Attribute o name apos) [] [] cpos) (wBM0 T f wo) :=
  let ⟨_, p1, s1⟩ := ho; ⟨_, pe_bm0 pa slot hty hm p1 hbase hline, fun {F S H env σ Q Q'} at_ hw post => s1 at_ hw fun x H1 dx S1 ok1 f1 r1 q1 => ⟨ty_rep ok1 r1 q1.1, hf (as := []) ok1 r1 rfl q1.2 (post.fr f1)⟩⟩
def strsOf : List D → Option (List Str)
  | [] => some []
  | .str b :: r => (strsOf r).map (b :: ·)
  | _ :: _ => none
theorem strsOf_map : ∀ bs : List Str, strsOf (bs.map D.str) = some bs
  | [] => rfl
  | b :: r => by show (strsOf (r.map D.str)).map (b :: ·) = _; rw [strsOf_map r]; rfl
theorem strsOf_is : ∀ {ds : List D} {bs : List Str}, strsOf ds = some bs → ds = bs.map D.str
  | [], bs, h => by cases h; rfl
  | d :: r, bs, h => by
    cases d <;> simp only [strsOf, reduceCtorEq] at h
    rename_i b
    cases e : strsOf r with
    | none => rw [e] at h; cases h
    | some cs => rw [e] at h; cases h; rw [strsOf_is e]; rfl
def fJoin (x : D) (xs : List D) (S : Store) (Q : PQ) : Prop := match x, xs with
  | .str a, [d] => match seqOf S d with
    | some ds => match strsOf ds with
      | some ys => (ys.map (·.length)).sum + ys.length * a.length ≤ 16777216 ∧ Q (.str (Txt.join a ys)) S
      | none => False
    | none => False
  | _, _ => False
theorem sm_join {K : PySem.W.Frag} : SndM K (fun x xs H Q => ∃ a p, ∃ ys : List Str, x = .str a ∧ xs = [.ref p] ∧ (SqL K H p (ys.map V.str) ∨ SqT K H p (ys.map V.str)) ∧ (ys.map (·.length)).sum + ys.length * a.length ≤ 16777216 ∧ Q (.str (Txt.join a ys)) H) fJoin := fun {F S H x xs a as Q Q'} ok r1 rs hf post => by
  unfold fJoin at hf
  split at hf
  · rename_i z d
    split at hf
    · rename_i ds e
      split at hf
      · rename_i ys ey
        obtain ⟨v, rfl, r⟩ := one_rep rs
        obtain ⟨p, vs, rfl, hs, rr⟩ := seq_of ok r e
        rw [strsOf_is ey] at rr
        have ev := rr.strs
        subst ev
        exact ⟨z, p, ys, r1, rfl, hs, hf.1, post.here ok (d := .str _) rfl hf.2⟩
      · exact hf.elim
    · exact hf.elim
  · exact hf.elim
theorem de_join {o : Expr} {wo : WE} {apos cpos : Pos} (ho : DE X G o wo) (ha : DA X G [e] wr) (hbase : attributeBase o "join" X.env (eval o X.env) = eval o X.env := by rfl)
    (hfew : ((backTo cpos (starEach [e] X.env)).all (fun x => !x.1) && (backToKw cpos (keywordEach [] X.env)).all (fun x => x.1.isSome)
      && decide ([e].length + ([] : List Keyword).length + (if ([] : List Keyword).isEmpty then 0 else 1) < 30)) = true := by rfl)
    (hline : (apos.endLine == cpos.line) = true := by rfl) (hs : starEach [e] X.env = (false, eval e X.env) :: starEach [] X.env := by rfl) (hplain : (backTo cpos (starEach [] X.env)).any (·.1) = false := by rfl) : DE X G (.Call (.Attribute o "join" apos) [e] [] cpos) (wBM "str" fJoin wo wr) :=
  de_bm PySem.F.plainAttrs_str PySem.F.slot_str_join PySem.F.type_str_join mt_join sm_join ho ha hbase hfew hline hs hplain
def fUpper (x : D) (xs : List D) (S : Store) (Q : PQ) : Prop := match x, xs with
  | .str a, [] => a.length ≤ 5592405 ∧ Q (.str (Txt.upper a)) S
  | _, _ => False
theorem de_upper {o : Expr} {wo : WE} {apos cpos : Pos} (ho : DE X G o wo) (hbase : attributeBase o "upper" X.env (eval o X.env) = eval o X.env := by rfl) (hline : (apos.endLine == cpos.line) = true := by rfl) : DE X G (.Call (.Attribute o "upper" apos) [] [] cpos) (wBM0 "str" fUpper wo) :=
  de_bm0 PySem.F.plainAttrs_str PySem.F.slot_str_upper PySem.F.type_str_upper mt_upper (fun {F S H x xs a as Q Q'} ok r1 rs hf post => by
    unfold fUpper at hf
    split at hf
    · rename_i z
      cases rs
      exact ⟨z, r1, rfl, hf.1, post.here ok (d := .str _) rfl hf.2⟩
    · exact hf.elim) ho hbase hline
/-! ### lists -/
theorem sc_list {K : PySem.W.Frag} : SndC K (fun xs H Q => ∃ p ys, xs = [V.ref p] ∧ (SqL K H p ys ∨ SqT K H p ys) ∧ ∀ l, H l = none → Q (.ref l) (upd H l (.lst ys))) fList := fun {F S H xs as Q Q'} ok rs hf post => by
  unfold fList at hf
  split at hf
  · rename_i d
    split at hf
    · rename_i ys e
      obtain ⟨v, rfl, r⟩ := one_rep rs
      obtain ⟨p, vs, rfl, hs, rr⟩ := seq_of ok r e
      exact ⟨p, vs, rfl, hs, fun l hl => post.newL ok rr hf hl⟩
    · exact hf.elim
  · exact hf.elim
def fListC (xs : List D) (S : Store) (Q : PQ) : Prop := match xs with
  | [d] => match seqOf S d with
    | some ys => ∀ a, S a = none → Q (.cel a) (sset S a (.lst ys))
    | none => False
  | _ => False
theorem sc_listC {K : PySem.W.Frag} : SndC K (fun xs H Q => ∃ p ys, xs = [V.ref p] ∧ (SqL K H p ys ∨ SqT K H p ys) ∧ ∀ l, H l = none → Q (.ref l) (upd H l (.lst ys))) fListC := fun {F S H xs as Q Q'} ok rs hf post => by
  unfold fListC at hf
  split at hf
  · rename_i d
    split at hf
    · rename_i ys e
      obtain ⟨v, rfl, r⟩ := one_rep rs
      obtain ⟨p, vs, rfl, hs, rr⟩ := seq_of ok r e
      exact ⟨p, vs, rfl, hs, fun l hl => post.newC ok rr hf hl⟩
    · exact hf.elim
  · exact hf.elim
theorem de_list {p : Pos} (hm : X.mg "list" = none) (ha : DE X G e wa) (hg : Gl X "list" := by rfl) (he : starEach [e] X.env = (false, eval e X.env) :: starEach [] X.env := by rfl) (hpl : (backTo pos (starEach [] X.env)).any (·.1) = false := by rfl) : DE X G (.Call (.Name "list" p) [e] [] pos) (wCB fList (wCons wa wNil)) :=
  de_callTy call_list_of sc_list hm (da_cons ha da_nil he) (by decide +kernel) hg (by decide) (by decide) he hpl
theorem de_listC {p : Pos} (hm : X.mg "list" = none) (ha : DE X G e wa) (hg : Gl X "list" := by rfl) (he : starEach [e] X.env = (false, eval e X.env) :: starEach [] X.env := by rfl) (hpl : (backTo pos (starEach [] X.env)).any (·.1) = false := by rfl) : DE X G (.Call (.Name "list" p) [e] [] pos) (wCB fListC (wCons wa wNil)) :=
  de_callTy call_list_of sc_listC hm (da_cons ha da_nil he) (by decide +kernel) hg (by decide) (by decide) he hpl
/-- xs.append(e), xs a cell -/
def fAppend (x : D) (xs : List D) (S : Store) (Q : PQ) : Prop := match x, xs with
  | .cel a, [d] => match S a with
    | some (.lst ys) => ys.length < sizeLine ∧ Q .non (sset S a (.lst (ys ++ [d])))
    | _ => False
  | _, _ => False
theorem sm_append {K : PySem.W.Frag} : SndM K rAppend fAppend := fun {F S H x xs a as Q Q'} ok r1 rs hf post => by
  unfold fAppend at hf
  split at hf
  · rename_i l d
    split at hf
    · rename_i ys e
      obtain ⟨v, rfl, r⟩ := one_rep rs
      obtain ⟨_, vs, hv, rr⟩ := ok.cells l _ e
      have f : Fr S H (sset S l (.lst (ys ++ [d]))) (upd H l (.lst (vs ++ [v]))) := Fr.chg e
      exact ⟨l, vs, v, r1, rfl, hv, by rw [← rr.length]; exact hf.1, post _ _ .non _ (ok.chg (c' := .lst (ys ++ [d])) e ⟨_, upd_same, RepDs.append (RepDs.mv f.mv _ _ rr) (RepDs.one (RepD.mv f.mv _ _ r))⟩) f rfl hf.2⟩
    · exact hf.elim
  · exact hf.elim
theorem de_append {o : Expr} {wo : WE} {apos cpos : Pos} (ho : DE X G o wo) (ha : DA X G [e] wr) (hbase : attributeBase o "append" X.env (eval o X.env) = eval o X.env := by rfl)
    (hfew : ((backTo cpos (starEach [e] X.env)).all (fun x => !x.1) && (backToKw cpos (keywordEach [] X.env)).all (fun x => x.1.isSome)
      && decide ([e].length + ([] : List Keyword).length + (if ([] : List Keyword).isEmpty then 0 else 1) < 30)) = true := by rfl)
    (hline : (apos.endLine == cpos.line) = true := by rfl) (hs : starEach [e] X.env = (false, eval e X.env) :: starEach [] X.env := by rfl) (hplain : (backTo cpos (starEach [] X.env)).any (·.1) = false := by rfl) : DE X G (.Call (.Attribute o "append" apos) [e] [] cpos) (wBM "list" fAppend wo wr) :=
  de_bm PySem.F.plainAttrs_list PySem.F.slot_list_append PySem.F.type_list_append mt_append sm_append ho ha hbase hfew hline hs hplain
/-- xs.pop(i), xs a cell -/
def fPopAt (x : D) (xs : List D) (S : Store) (Q : PQ) : Prop := match x, xs with
  | .cel a, [.int i] => match S a with
    | some (.lst ys) => (-(2 ^ 63) ≤ i ∧ i < 2 ^ 63) ∧ match seqIndex? i ys.length with
      | some k => match ys[k]? with
        | some d => Q d (sset S a (.lst (ys.eraseIdx k)))
        | none => False
      | none => False
    | _ => False
  | _, _ => False
theorem RepDs.erase {K : PySem.W.Frag} {F : Addr → Prop} {S : Store} {H : Hp} : ∀ {xs : List D} {vs : List V} (n : Nat), RepDs K F S H xs vs → RepDs K F S H (xs.eraseIdx n) (vs.eraseIdx n)
  | [], _, _, h => by cases h; rfl
  | x :: xs, _, 0, ⟨v, r, e, h1, h2⟩ => by subst e; exact h2
  | x :: xs, _, n + 1, ⟨v, r, e, h1, h2⟩ => by subst e; exact ⟨v, _, rfl, h1, RepDs.erase n h2⟩
theorem sm_popAt {K : PySem.W.Frag} : SndM K rPopAt fPopAt := fun {F S H x xs a as Q Q'} ok r1 rs hf post => by
  unfold fPopAt at hf
  split at hf
  · rename_i l i
    split at hf
    · rename_i ys e
      obtain ⟨hb, hf⟩ := hf
      split at hf
      · rename_i k ek
        split at hf
        · rename_i d ed
          obtain ⟨v, rfl, r⟩ := one_rep rs
          cases r
          obtain ⟨_, vs, hv, rr⟩ := ok.cells l _ e
          obtain ⟨u, hu, ru⟩ := rr.get ed
          have f : Fr S H (sset S l (.lst (ys.eraseIdx k))) (upd H l (.lst (vs.eraseIdx k))) := Fr.chg e
          exact ⟨l, vs, i, k, u, r1, rfl, hv, hb.1, hb.2, by rw [← rr.length]; exact ek, hu, post _ _ d _ (ok.chg (c' := .lst (ys.eraseIdx k)) e ⟨_, upd_same, RepDs.mv f.mv _ _ (RepDs.erase k rr)⟩) f (RepD.mv f.mv _ _ ru) hf⟩
        · exact hf.elim
      · exact hf.elim
    · exact hf.elim
  · exact hf.elim
theorem de_popAt {o : Expr} {wo : WE} {apos cpos : Pos} (ho : DE X G o wo) (ha : DA X G [e] wr) (hbase : attributeBase o "pop" X.env (eval o X.env) = eval o X.env := by rfl)
    (hfew : ((backTo cpos (starEach [e] X.env)).all (fun x => !x.1) && (backToKw cpos (keywordEach [] X.env)).all (fun x => x.1.isSome)
      && decide ([e].length + ([] : List Keyword).length + (if ([] : List Keyword).isEmpty then 0 else 1) < 30)) = true := by rfl)
    (hline : (apos.endLine == cpos.line) = true := by rfl) (hs : starEach [e] X.env = (false, eval e X.env) :: starEach [] X.env := by rfl) (hplain : (backTo cpos (starEach [] X.env)).any (·.1) = false := by rfl) : DE X G (.Call (.Attribute o "pop" apos) [e] [] cpos) (wBM "list" fPopAt wo wr) :=
  de_bm PySem.F.plainAttrs_list PySem.F.slot_list_pop PySem.F.type_list_pop mt_popAt sm_popAt ho ha hbase hfew hline hs hplain
/-- xs + ys -/
def fAddL (x y : D) (S : Store) (Q : PQ) : Prop := match lstOf S x, lstOf S y with
  | some xs, some ys => xs.length + ys.length ≤ sizeLine ∧ Q (.lst (xs ++ ys)) S
  | _, _ => False
/-! ### isinstance -/
def tyName (S : Store) : D → Option String
  | .non => some "NoneType"
  | .bl _ => some "bool"
  | .int _ => some "int"
  | .str _ => some "str"
  | .lst _ => some "list"
  | .tup _ => some "tuple"
  | .dT _ _ => some "dict"
  | .dK _ _ => some "dict"
  | .cel a => match S a with
    | some (.lst _) => some "list"
    | some (.dT _ _) => some "dict"
    | some (.dK _ _) => some "dict"
    | _ => none
  | _ => none
theorem tyName_rep {K : PySem.W.Frag} {F : Addr → Prop} {S : Store} {H : Hp} {d : D} {v : V} {T : String} (ok : Ok K F S H) (r : RepD K F S H d v) (h : tyName S d = some T) : TyX K H v (.type T) := by
  cases d <;> simp only [tyName, Option.some.injEq, reduceCtorEq] at h
  · subst h; cases r; exact .base .non
  · subst h; cases r; exact .base (.bl _)
  · subst h; cases r; exact .base (.int _)
  · subst h; cases r; exact .base (.str _)
  · rename_i a
    cases r
    split at h
    · rename_i xs e
      cases h
      obtain ⟨_, vs, hv, _⟩ := ok.cells a _ e
      exact .base (.lst hv)
    · rename_i ks xs e
      cases h
      obtain ⟨_, vs, hv, _⟩ := ok.cells a _ e
      exact .base (.dT hv)
    · rename_i ks xs e
      cases h
      obtain ⟨_, vs, hv, _⟩ := ok.cells a _ e
      exact .base (.dK hv)
    · cases h
  · subst h
    obtain ⟨a, vs, rfl, hl, _⟩ := r
    rcases hl with ⟨_, _, hv | ⟨o, hv⟩⟩ | ⟨o, its, n, hk, hc, _⟩
    · exact .base (.lst hv)
    · exact .base (.frz hv)
    · exact .kList hk hc
  · subst h
    obtain ⟨a, vs, rfl, hl, _⟩ := r
    rcases hl with ⟨_, _, hv | ⟨o, hv⟩⟩ | ⟨o, its, n, hk, hc, _⟩
    · exact .base (.tup hv)
    · exact .fTuple hv
    · exact .kTuple hk hc
  · subst h
    obtain ⟨a, vs, rfl, ⟨_, _, hv⟩, _⟩ := r
    exact .base (.dT hv)
  · subst h
    obtain ⟨a, vs, rfl, ⟨_, _, hv⟩, _⟩ := r
    exact .base (.dK hv)
def fIsi (n : String) (x : D) (S : Store) (Q : PQ) : Prop := match tyName S x with
  | some t => match kitB t n with
    | some b => Q (.bl b) S
    | none => False
  | none => False
def wIsi (n : String) (wa : WE) : WE := fun env S Q => wa env S fun x S1 => fIsi n x S1 Q
theorem de_isi {x : Str} {p px : Pos} {n : String} (hm : X.mg "isinstance" = none) (ha : DE X G e wa) (hmx : X.mg x = none) (hv : bootBuiltins x = some (.type n) := by decide +kernel) (hg : Gl X "isinstance" := by rfl) (hgx : Gl X x := by rfl) (hn : x ≠ "__name__" := by decide) (hd : (x == ("__debug__" : Str)) = false := by decide)
    (he : starEach [e, .Name x px] X.env = (false, eval e X.env) :: starEach [.Name x px] X.env := by rfl) (he2 : starEach [.Name x px] X.env = (false, eval (.Name x px) X.env) :: starEach [] X.env := by rfl) (hpl : (backTo pos (starEach [.Name x px] X.env)).any (·.1) = false := by rfl) :
    DE X G (.Call (.Name "isinstance" p) [e, .Name x px] [] pos) (wIsi n wa) := by
  obtain ⟨t, pe, se⟩ := ha
  refine ⟨_, pe_callB call_isi hg hm (by decide +kernel) (pa_cons pe (pa_cons (pe_bltn (v := .ty n) hgx hmx hv rfl hn hd) pa_nil he2) he) (by decide) (by decide) he hpl, fun {F S H env σ Q Q'} at_ hw post => se at_ hw fun v H1 d S1 ok1 f1 r1 q1 => ?_⟩
  unfold fIsi at q1
  split at q1
  · rename_i T eT
    split at q1
    · rename_i k ek
      exact ⟨v, .ty n, .type T, .type n, k, rfl, .ty n, tyName_rep ok1 r1 eT, kit_ty ek, (post.fr f1).here ok1 (d := .bl k) rfl q1⟩
    · exact q1.elim
  · exact q1.elim
def fIsi2 (n m : String) (x : D) (S : Store) (Q : PQ) : Prop := match tyName S x with
  | some t => match kitB t n, kitB t m with
    | some b, some c => Q (.bl (b || c)) S
    | _, _ => False
  | none => False
def wIsi2 (n m : String) (wa : WE) : WE := fun env S Q => wa env S fun x S1 => fIsi2 n m x S1 Q
theorem de_isi2 {x y : Str} {p px py pt : Pos} {x1} {n m : String} (hm : X.mg "isinstance" = none) (ha : DE X G e wa) (hmx : X.mg x = none) (hmy : X.mg y = none) (hv : bootBuiltins x = some (.type n) := by decide +kernel) (hvy : bootBuiltins y = some (.type m) := by decide +kernel) (hg : Gl X "isinstance" := by rfl) (hgx : Gl X x := by rfl) (hgy : Gl X y := by rfl) (hn : x ≠ "__name__" := by decide) (hd : (x == ("__debug__" : Str)) = false := by decide) (hny : y ≠ "__name__" := by decide) (hdy : (y == ("__debug__" : Str)) = false := by decide)
    (he : starEach [e, .Tuple [.Name x px, .Name y py] x1 pt] X.env = (false, eval e X.env) :: starEach [.Tuple [.Name x px, .Name y py] x1 pt] X.env := by rfl) (he2 : starEach [.Tuple [.Name x px, .Name y py] x1 pt] X.env = (false, eval (.Tuple [.Name x px, .Name y py] x1 pt) X.env) :: starEach [] X.env := by rfl) (hpl : (backTo pos (starEach [.Tuple [.Name x px, .Name y py] x1 pt] X.env)).any (·.1) = false := by rfl)
    (hs1 : starEach [.Name x px, .Name y py] X.env = (false, eval (.Name x px) X.env) :: starEach [.Name y py] X.env := by rfl) (hs2 : starEach [.Name y py] X.env = (false, eval (.Name y py) X.env) :: starEach [] X.env := by rfl) :
    DE X G (.Call (.Name "isinstance" p) [e, .Tuple [.Name x px, .Name y py] x1 pt] [] pos) (wIsi2 n m wa) := by
  obtain ⟨t, pe, se⟩ := ha
  refine ⟨_, pe_callB call_isiT hg hm (by decide +kernel) (pa_cons pe (pa_cons (pe_tup (pa_cons (pe_bltn (v := .ty n) hgx hmx hv rfl hn hd) (pa_cons (pe_bltn (v := .ty m) hgy hmy hvy rfl hny hdy) pa_nil hs2) hs1)) pa_nil he2) he) (by decide) (by decide) he hpl, fun {F S H env σ Q Q'} at_ hw post => se at_ hw fun v H1 d S1 ok1 f1 r1 q1 => ?_⟩
  unfold fIsi2 at q1
  split at q1
  · rename_i T eT
    split at q1
    · rename_i k l ek el
      refine ⟨by show 2 ≤ sizeLine; decide, fun q hq => ?_⟩
      have f2 : Fr S1 H1 S1 (upd H1 q (.tup [V.ty n, V.ty m])) := Fr.new ok1 hq
      refine ⟨v, q, [.ty n, .ty m], .type T, [.type n, .type m], k || l, rfl, upd_same, .cons (.ty n) (.cons (.ty m) .nil), tyName_rep (ok1.new hq) (RepD.mv f2.mv _ _ r1) eT, ?_, post _ _ (.bl (k || l)) S1 (ok1.new hq) (f1.trans f2) rfl q1⟩
      exact kitAny_cons (kit_ty ek) (fun z => by
        subst z
        exact kitAny_cons (kit_ty el) (fun z => by subst z; exact kitAny_nil) fun z => by subst z; rfl) fun z => by subst z; rfl
    · exact q1.elim
  · exact q1.elim
end
end Pz

set_option Elab.async false
set_option linter.all false
set_option maxRecDepth 100000
set_option maxHeartbeats 4000000
/-! pure helpers -/
namespace Pz
open PySem PySem.Spec PyProof.Rows L2
theorem fIxL_to {x : D} {xs : List D} {i : Int} {d : D} {S : Store} {Q : PQ} (h : lstOf S x = some xs) (ha : atD xs i = some d) (q : Q d S) : fIxL x (.int i) S Q := by
  simp only [fIxL, h, ha]; exact q
theorem lstOf_cel {S : Store} {a : Addr} {xs : List D} (h : S a = some (.lst xs)) : lstOf S (.cel a) = some xs := by simp only [lstOf, h]
theorem seqOf_cel {S : Store} {a : Addr} {xs : List D} (h : S a = some (.lst xs)) : seqOf S (.cel a) = some xs := by simp only [seqOf, h]
theorem fSetL_to {a : Addr} {xs : List D} {k : Int} {j : Nat} {v : D} {S : Store} {Q : Store → Prop} (h : S a = some (.lst xs)) (hj : ixN xs.length k = some j) (q : Q (sset S a (.lst (xs.set j v)))) : fSetL (.cel a) (.int k) v S Q := by
  simp only [fSetL, h, hj]; exact q
theorem atD_nat {xs : List D} {i : Nat} {d : D} (h : xs[i]? = some d) : atD xs (i : Int) = some d := by
  unfold atD ixN
  have hi : i < xs.length := (List.getElem?_eq_some_iff.mp h).1
  rw [if_pos (Int.natCast_nonneg i), if_pos (by exact_mod_cast hi)]
  exact h
theorem fLenL_to {d : D} {ys : List D} {S : Store} {Q : PQ} (h : seqOf S d = some ys) (q : Q (.int ys.length) S) : fLenL [d] S Q := by
  simp only [fLenL, h]; exact q
/-- a statement and the rest, what holds between said by itself -/
def wCut (w1 w2 : WS) : WS := fun P env S => ∃ I : En → Store → Prop, w1 { P with nx := I } env S ∧ ∀ env' S', I env' S' → w2 P env' S'
theorem dss_cut {X : Cx} {G : Gd} {st : Stmt} {rest : List Stmt} {w1 w2 : WS} (h1 : DS X G st w1) (h2 : DSs X G rest w2) : DSs X G (st :: rest) (wCut w1 w2) := let ⟨_, p1, s1⟩ := h1; let ⟨_, p2, s2⟩ := h2; ⟨_, pss_cons p1 p2, fun at_ ⟨I, hw, hr⟩ e => s1 at_ hw ⟨fun a f q => s2 a (hr _ _ q) (e.fr f), e.rt, e.bk, e.ct⟩⟩
theorem s_seq {w1 w2 : WS} {P : PEnds} {env : En} {S : Store} (h : w1 { P with nx := w2 P } env S) : wSeq w1 w2 P env S := h
theorem ixN_nat {n i : Nat} (h : i < n) : ixN n (i : Int) = some i := by
  unfold ixN
  rw [if_pos (Int.natCast_nonneg i), if_pos (by exact_mod_cast h)]
  rfl
/-! ### a law's box of draws -/
def BoxC (c : Cell) : Prop := ∃ (ns : List Int) (i r s : Int), c = .lst [.lst (ns.map .int), .int i, .int r, .int s] ∧ 0 ≤ i
def Box (S : Store) (b : Addr) : Prop := ∃ c, S b = some c ∧ BoxC c
def SB (b : Addr) (S S' : Store) : Prop := ∀ a, a ≠ b → S' a = S a
theorem SB.refl (b : Addr) (S : Store) : SB b S S := fun _ _ => rfl
theorem SB.trans {b : Addr} {S S1 S2 : Store} (h : SB b S S1) (g : SB b S1 S2) : SB b S S2 := fun a ha => (g a ha).trans (h a ha)
theorem SB.set (b : Addr) (S : Store) (c : Cell) : SB b S (sset S b c) := fun _ ha => sset_ne ha
def pTake : PSpec := fun ds S Q => ∃ (b : Addr) (m : Int), ds = [.cel b, .int m] ∧ Box S b ∧ 0 < m ∧ m < 1073741824 ∧ ∀ (r : Int) S', 0 ≤ r → r < m → Box S' b → SB b S S' → Q (.int r) S'
def pBox : PSpec := fun ds S Q => ∃ ns : List Int, ds = [.lst (ns.map .int)] ∧ ns.length ≤ 63 ∧ ∀ b S', S b = none → Box S' b → SB b S S' → Q (.cel b) S'
end Pz

set_option Elab.async false
set_option linter.all false
set_option maxRecDepth 100000
set_option maxHeartbeats 4000000
/-! more pure helpers; a law's own look whether two things are the same -/
namespace Pz
open PySem PySem.Spec PyProof.Rows L2
theorem lc_map {α : Type} {ys : List α} {mk : α → D} {S1 : Store} {Q : PQ} {we : WE} {j : Nat} {vs : List Nat} {env : En} (f : α → D) (hl : ys.length ≤ sizeLine)
    (hs : ∀ y, y ∈ ys → ∀ R : PQ, R (f y) S1 → we ((wipeD env vs).set j (some (mk y))) S1 R) (hQ : Q (.lst (ys.map f)) S1) : LcGo (gwName j) wYes we vs env Q (ys.map mk) S1 := by
  refine ⟨fun i acc S => S = S1 ∧ acc = (ys.take i).map f, ⟨rfl, rfl⟩, ?_⟩
  rintro i acc S ⟨rfl, rfl⟩
  rw [List.getElem?_map]
  cases e : ys[i]? with
  | none =>
    have h := List.getElem?_eq_none_iff.mp e
    show Q (.lst ((ys.take i).map f)) S
    rw [List.take_of_length_le h]
    exact hQ
  | some x =>
    have hi := (List.getElem?_eq_some_iff.mp e).1
    refine hs x (List.mem_of_getElem? e) _ ⟨?_, rfl, ?_⟩
    · rw [List.length_map, List.length_take]; omega
    · rw [List.take_add_one, e, List.map_append]; rfl
/-- the same with the store turning -/
theorem lc_run {α : Type} {ys : List α} {mk : α → D} {S1 : Store} {Q : PQ} {we : WE} {j : Nat} {vs : List Nat} {env : En} (J : Nat → List D → Store → Prop) (hl : ys.length ≤ sizeLine) (h0 : J 0 [] S1)
    (hs : ∀ i y acc S', ys[i]? = some y → acc.length = i → J i acc S' → ∀ R : PQ, (∀ d S2, J (i + 1) (acc ++ [d]) S2 → R d S2) → we ((wipeD env vs).set j (some (mk y))) S' R) (hQ : ∀ acc S', acc.length = ys.length → J ys.length acc S' → Q (.lst acc) S') : LcGo (gwName j) wYes we vs env Q (ys.map mk) S1 := by
  refine ⟨fun i acc S => J i acc S ∧ acc.length = i ∧ i ≤ ys.length, ⟨h0, rfl, Nat.zero_le _⟩, ?_⟩
  rintro i acc S ⟨hJ, hl', hle⟩
  rw [List.getElem?_map]
  cases e : ys[i]? with
  | none =>
    have h := List.getElem?_eq_none_iff.mp e
    have ei : i = ys.length := by omega
    exact hQ acc S (by omega) (by rw [← ei]; exact hJ)
  | some x =>
    have hi := (List.getElem?_eq_some_iff.mp e).1
    exact hs i x acc S e hl' hJ _ fun y S' h => ⟨by omega, h, by rw [List.length_append, hl']; rfl, hi⟩
theorem sizeLine_big : 100000 ≤ sizeLine := by decide
/-! ### x[i] of a list or a tuple -/
def fIxQ (x y : D) (S : Store) (Q : PQ) : Prop := match seqOf S x, y with
  | some xs, .int i => match atD xs i with
    | some d => Q d S
    | none => False
  | _, _ => False
theorem sr_ixQ {K : PySem.W.Frag} : SndR K (rIx K) fIxQ := fun {F S H x y a b Q Q'} ok r1 r2 hf post => by
  unfold fIxQ at hf
  split at hf
  · rename_i xs i e
    split at hf
    · rename_i d ed
      obtain ⟨p, vs, rfl, hs, rs⟩ := seq_of ok r1 e
      obtain ⟨v, h1, h2⟩ := at_rep rs ed
      rcases hs with hs | hs
      · exact .inl ⟨p, vs, i, v, rfl, r2, hs, h1, post.here ok h2 hf⟩
      · exact .inr (.inl ⟨p, vs, i, v, rfl, r2, hs, h1, post.here ok h2 hf⟩)
    · exact hf.elim
  · exact hf.elim
theorem de_ixQ {X : Cx} {G : Gd} {a b : Expr} {wa wb : WE} {pos : Pos} (ha : DE X G a wa) (hb : DE X G b wb) (hs : PlainIx b := by exact fun _ _ => rfl) : DE X G (.Subscript a b pos) (wOp fIxQ wa wb) := de_ix ix_seq sr_ixQ ha hb hs
theorem fIxQ_to {x : D} {xs : List D} {i : Int} {d : D} {S : Store} {Q : PQ} (h : seqOf S x = some xs) (ha : atD xs i = some d) (q : Q d S) : fIxQ x (.int i) S Q := by
  simp only [fIxQ, h, ha]; exact q
theorem kt_NoneType_list : kitB "NoneType" "list" = some false := by decide +kernel
theorem kt_NoneType_tuple : kitB "NoneType" "tuple" = some false := by decide +kernel
theorem kt_NoneType_bool : kitB "NoneType" "bool" = some false := by decide +kernel
theorem kt_NoneType_int : kitB "NoneType" "int" = some false := by decide +kernel
theorem kt_NoneType_str : kitB "NoneType" "str" = some false := by decide +kernel
theorem kt_bool_list : kitB "bool" "list" = some false := by decide +kernel
theorem kt_bool_tuple : kitB "bool" "tuple" = some false := by decide +kernel
theorem kt_bool_bool : kitB "bool" "bool" = some true := by decide +kernel
theorem kt_bool_int : kitB "bool" "int" = some true := by decide +kernel
theorem kt_bool_str : kitB "bool" "str" = some false := by decide +kernel
theorem kt_int_list : kitB "int" "list" = some false := by decide +kernel
theorem kt_int_tuple : kitB "int" "tuple" = some false := by decide +kernel
theorem kt_int_bool : kitB "int" "bool" = some false := by decide +kernel
theorem kt_int_int : kitB "int" "int" = some true := by decide +kernel
theorem kt_int_str : kitB "int" "str" = some false := by decide +kernel
theorem kt_str_list : kitB "str" "list" = some false := by decide +kernel
theorem kt_str_tuple : kitB "str" "tuple" = some false := by decide +kernel
theorem kt_str_bool : kitB "str" "bool" = some false := by decide +kernel
theorem kt_str_int : kitB "str" "int" = some false := by decide +kernel
theorem kt_str_str : kitB "str" "str" = some true := by decide +kernel
theorem kt_list_list : kitB "list" "list" = some true := by decide +kernel
theorem kt_list_tuple : kitB "list" "tuple" = some false := by decide +kernel
theorem kt_list_bool : kitB "list" "bool" = some false := by decide +kernel
theorem kt_list_int : kitB "list" "int" = some false := by decide +kernel
theorem kt_list_str : kitB "list" "str" = some false := by decide +kernel
theorem kt_tuple_list : kitB "tuple" "list" = some false := by decide +kernel
theorem kt_tuple_tuple : kitB "tuple" "tuple" = some true := by decide +kernel
theorem kt_tuple_bool : kitB "tuple" "bool" = some false := by decide +kernel
theorem kt_tuple_int : kitB "tuple" "int" = some false := by decide +kernel
theorem kt_tuple_str : kitB "tuple" "str" = some false := by decide +kernel
/-! ### sameness -/
def isSc : D → Bool
  | .non => true
  | .bl _ => true
  | .int _ => true
  | .str _ => true
  | _ => false
def sameSc : D → D → Bool
  | .non, .non => true
  | .bl a, .bl b => decide (a = b)
  | .int a, .int b => decide (a = b)
  | .str a, .str b => decide (a = b)
  | _, _ => false
mutual
def sameD : D → D → Bool
  | .lst xs, .lst ys => decide (xs.length = ys.length) && sameDs xs ys
  | .tup xs, .tup ys => decide (xs.length = ys.length) && sameDs xs ys
  | .non, .non => true
  | .bl a, .bl b => decide (a = b)
  | .int a, .int b => decide (a = b)
  | .str a, .str b => decide (a = b)
  | _, _ => false
def sameDs : List D → List D → Bool
  | x :: xs, y :: ys => sameD x y && sameDs xs ys
  | _, _ => true
end
/-- things that the look takes, so deep at most -/
inductive OkS : Nat → D → D → Prop
  | sc {n : Nat} {x y : D} : isSc x = true → isSc y = true → OkS (n + 1) x y
  | lst {n : Nat} {xs ys : List D} : ys.length ≤ 100000 → (∀ (i : Nat) x y, xs[i]? = some x → ys[i]? = some y → OkS n x y) → OkS (n + 1) (.lst xs) (.lst ys)
  | tup {n : Nat} {xs ys : List D} : ys.length ≤ 100000 → (∀ (i : Nat) x y, xs[i]? = some x → ys[i]? = some y → OkS n x y) → OkS (n + 1) (.tup xs) (.tup ys)
def pSame (n : Nat) : PSpec := fun ds S Q => ∃ x y, ds = [x, y] ∧ OkS n x y ∧ Q (.bl (sameD x y)) S
theorem sameDs_all : ∀ (xs ys : List D), xs.length = ys.length → sameDs xs ys = ((List.range ys.length).map fun k => match xs[k]?, ys[k]? with | some x, some y => sameD x y | _, _ => true).all id
  | [], [], _ => rfl
  | x :: xs, y :: ys, h => by
    have ih := sameDs_all xs ys (by simpa using h)
    show (sameD x y && sameDs xs ys) = _
    rw [ih, List.length_cons, List.range_succ_eq_map, List.map_cons, List.map_map]
    rfl
  | [], _ :: _, h => by simp at h
  | _ :: _, [], h => by simp at h

/-! ### names -/
def letters : List Nat := ("abcdefghijklmnopqrstuvwxyz" : Str).cps.toList
def isName (z : Str) : Bool := (decide (1 ≤ (z.length : Int)) && decide ((z.length : Int) ≤ 8)) && z.cps.toList.all fun c => decide (c ∈ letters)
theorem len_codes (z : Str) : z.cps.toList.length = z.length := by simp [Str.length]
/-- 1 <= len(x) <= 8 and all([sign in LETTERS for sign in x]) -/
theorem isname_w {env : En} {S : Store} {Q : PQ} {i j : Nat} {z : Str} (hz : env[i]? = some (some (.str z))) (hij : i ≠ j) (hj : j < env.length) (hl : z.length ≤ sizeLine) (q : Q (.bl (isName z)) S) :
    wAndV (wChain fLe fLe (wC (.int 1)) (wCB fLenS (wCons (wVar i) wNil)) (wC (.int 8))) (wCB fAll (wCons (wLc (wiS (wVar i)) (gwName j) wYes (wOp fInS (wVar j) (wC (.str "abcdefghijklmnopqrstuvwxyz"))) [j]) wNil)) env S Q := by
  have rest : Q (.bl (z.cps.toList.all fun c => decide (c ∈ letters))) S → wCB fAll (wCons (wLc (wiS (wVar i)) (gwName j) wYes (wOp fInS (wVar j) (wC (.str "abcdefghijklmnopqrstuvwxyz"))) [j]) wNil) env S Q := by
    intro q
    simp only [wCB, wCons, wNil, wLc, wiS, wVar, hz]
    refine lc_map (ys := z.cps.toList) (mk := fun c => D.str ⟨#[c]⟩) (fun c => D.bl (decide (c ∈ letters))) (by rw [len_codes]; exact hl) (fun c _ R r => ?_) ?_
    · have e : ((wipeD env [j]).set j (some (D.str ⟨#[c]⟩)))[j]? = some (some (D.str ⟨#[c]⟩)) := List.getElem?_set_self (by simp [wipeD]; exact hj)
      simp only [wOp, wVar, e, wC, fInS]
      exact ⟨c, rfl, r⟩
    · have e : z.cps.toList.map (fun c => D.bl (decide (c ∈ letters))) = (z.cps.toList.map fun c => decide (c ∈ letters)).map D.bl := by rw [List.map_map]; rfl
      rw [e]
      simp only [fAll, lstOf, blsOf_map, List.all_map]
      exact q
  simp only [wAndV, wChain, wC, wCB, wCons, wNil, wVar, hz, fLenS, fLe, fI0]
  have c1 : (1 : Int) ≤ (z.length : Int) ∨ ¬ (1 : Int) ≤ (z.length : Int) := by omega
  have c2 : (z.length : Int) ≤ 8 ∨ ¬ (z.length : Int) ≤ 8 := by omega
  unfold isName at q
  refine ⟨hl, ?_⟩
  rcases c1 with c1 | c1
  · simp only [c1, decide_true, Bool.true_and] at q ⊢
    rcases c2 with c2 | c2
    · simp only [c2, decide_true, Bool.true_and] at q ⊢
      exact rest q
    · simp only [c2, decide_false, Bool.false_and] at q ⊢
      exact q
  · simp only [c1, decide_false, Bool.false_and] at q ⊢
    exact q
theorem atD_mem {xs : List D} {r : Int} (h0 : 0 ≤ r) (h1 : r < (xs.length : Int)) : ∃ d, atD xs r = some d ∧ d ∈ xs := by
  obtain ⟨j, rfl⟩ : ∃ j : Nat, r = (j : Int) := ⟨r.toNat, by omega⟩
  have hj : j < xs.length := by omega
  exact ⟨xs[j], atD_nat (List.getElem?_eq_getElem hj), List.getElem_mem hj⟩
theorem rangeD_eq (lo : Int) (n : Nat) : rangeD lo n = (List.range n).map fun k => D.int (lo + (k : Nat)) := rfl
theorem for_go {g : WG} {w : WS} {P : PEnds} {env : En} {xs : List D} {S1 : Store} (J : Nat → En → Store → Prop) (h0 : J 0 env S1) (hs : ∀ i x env S, xs[i]? = some x → J i env S → g x env S fun env2 S2 => w { P with nx := J (i + 1), ct := J (i + 1), bk := P.nx } env2 S2)
    (hn : ∀ i env S, xs[i]? = none → J i env S → P.nx env S) : ForGo g w P env xs S1 := by
  refine ⟨J, h0, fun i env S h => ?_⟩
  cases e : xs[i]? with
  | none => exact hn i env S e h
  | some x => exact hs i x env S e h
def pIsName : PSpec := fun ds S Q => ∃ z : Str, ds = [.str z] ∧ z.length ≤ sizeLine ∧ Q (.bl (isName z)) S
end Pz

set_option Elab.async false
set_option linter.all false
set_option maxRecDepth 100000
set_option maxHeartbeats 4000000
/-! texts in the pure layer -/
namespace Pz
open PySem PySem.Spec PyProof.Rows L2
theorem atI_mem {α : Type} {xs : List α} {r : Int} (h0 : 0 ≤ r) (h1 : r < (xs.length : Int)) : ∃ d, atI xs r = some d ∧ d ∈ xs := by
  obtain ⟨j, rfl⟩ : ∃ j : Nat, r = (j : Int) := ⟨r.toNat, by omega⟩
  have hj : j < xs.length := by omega
  refine ⟨xs[j], ?_, List.getElem_mem hj⟩
  unfold atI
  rw [ixN_nat hj]
  exact List.getElem?_eq_getElem hj
theorem fIxS_to {z : Str} {i : Int} {c : Nat} {S : Store} {Q : PQ} (hl : z.length ≤ sizeLine) (h : atI z.cps.toList i = some c) (q : Q (.str ⟨#[c]⟩) S) : fIxS (.str z) (.int i) S Q := by
  simp only [fIxS, h]; exact ⟨hl, q⟩
theorem fIxT_to {xs : List D} {i : Int} {d : D} {S : Store} {Q : PQ} (ha : atD xs i = some d) (q : Q d S) : fIxT (.tup xs) (.int i) S Q := by
  simp only [fIxT, ha]; exact q
theorem fAddS_to {x y : Str} {S : Store} {Q : PQ} (hl : x.length + y.length ≤ sizeLine) (q : Q (.str (x ++ y)) S) : fAddS (.str x) (.str y) S Q := ⟨hl, q⟩
theorem fSlS_to {z : Str} {lo hi : Option Int} {S : Store} {Q : PQ} (hl : z.length ≤ sizeLine) (q : Q (.str (cutS z lo hi)) S) : fSlS (.str z) lo hi S Q := ⟨hl, q⟩
theorem codes_app (x y : Str) : (x ++ y).cps.toList = x.cps.toList ++ y.cps.toList := by rw [PySem.Str.cps_append, Array.toList_append]
theorem len_app (x y : Str) : (x ++ y).length = x.length + y.length := by rw [← len_codes, codes_app, List.length_append, len_codes, len_codes]
theorem codes_cut (z : Str) (lo hi : Option Int) : (cutS z lo hi).cps.toList = (z.cps.toList.drop (HT.sIx z.length 0 lo)).take (HT.sIx z.length z.length hi - HT.sIx z.length 0 lo) := by unfold cutS; simp
theorem len_cut (z : Str) (lo hi : Option Int) : (cutS z lo hi).length ≤ z.length := by
  rw [← len_codes, codes_cut, List.length_take, List.length_drop, len_codes]; omega
theorem cut_to (z : Str) (k : Nat) : (cutS z none (some (k : Int))).cps.toList = z.cps.toList.take k := by
  rw [codes_cut, HT.sIx_none, HT.sIx_nat, List.drop_zero, Nat.sub_zero]
  rw [← len_codes]
  exact List.take_eq_take_iff.mpr (by omega)
theorem cut_from (z : Str) (k : Nat) : (cutS z (some (k : Int)) none).cps.toList = z.cps.toList.drop k := by
  rw [codes_cut, HT.sIx_none, HT.sIx_nat, ← len_codes]
  rw [List.take_of_length_le (by rw [List.length_drop]; omega)]
  by_cases h : k ≤ z.cps.toList.length
  · rw [Nat.min_eq_left h]
  · rw [Nat.min_eq_right (by omega), List.drop_eq_nil_of_le (Nat.le_refl _), List.drop_eq_nil_of_le (by omega)]
theorem len_one (c : Nat) : (⟨#[c]⟩ : Str).length = 1 := rfl
theorem codes_one (c : Nat) : (⟨#[c]⟩ : Str).cps.toList = [c] := rfl
theorem glue_none : ∀ (ps : List Str) (a : Array Nat), (ps.foldl (fun acc p => acc ++ (#[] : Array Nat) ++ p.cps) a).toList = a.toList ++ (ps.map (·.cps.toList)).flatten
  | [], a => by simp
  | p :: ps, a => by
    rw [List.foldl_cons, glue_none ps]
    simp
theorem codes_join (ps : List Str) : (Txt.join "" ps).cps.toList = (ps.map (·.cps.toList)).flatten := by
  show ((ps.drop 1).foldl (fun acc p => acc ++ ("" : Str).cps ++ p.cps) (ps.headD Str.empty).cps).toList = _
  have e : ("" : Str).cps = #[] := rfl
  rw [e, glue_none]
  cases ps with
  | nil => rfl
  | cons p ps => simp
theorem codes_join_ones (cs : List Nat) : (Txt.join "" (cs.map fun c => (⟨#[c]⟩ : Str))).cps.toList = cs := by
  rw [codes_join, List.map_map]
  induction cs with
  | nil => rfl
  | cons c cs ih => simpa using ih
theorem sum_ones : ∀ cs : List Nat, (cs.map ((fun x : Str => x.length) ∘ fun c => (⟨#[c]⟩ : Str))).sum = cs.length
  | [] => rfl
  | c :: cs => by rw [List.map_cons, List.sum_cons, sum_ones cs, List.length_cons]; show 1 + cs.length = _; omega
theorem isName_of {z : Str} (h1 : 1 ≤ z.cps.toList.length) (h2 : z.cps.toList.length ≤ 8) (h3 : ∀ c ∈ z.cps.toList, c ∈ letters) : isName z = true := by
  rw [len_codes] at h1 h2
  unfold isName
  rw [decide_eq_true (by omega), decide_eq_true (by omega), Bool.true_and, Bool.true_and, List.all_eq_true]
  exact fun c hc => decide_eq_true (h3 c hc)
theorem isName_len {z : Str} (h : isName z = true) : 1 ≤ z.length ∧ z.length ≤ 8 := by
  unfold isName at h
  rw [Bool.and_eq_true, Bool.and_eq_true] at h
  have h1 := of_decide_eq_true h.1.1
  have h2 := of_decide_eq_true h.1.2
  omega
theorem isName_codes {z : Str} (h : isName z = true) : ∀ c ∈ z.cps.toList, c ∈ letters := by
  unfold isName at h
  rw [Bool.and_eq_true, List.all_eq_true] at h
  exact fun c hc => of_decide_eq_true (h.2 c hc)
theorem letters_len : letters.length = 26 := by decide +kernel
theorem alpha_len : ("abcdefghijklmnopqrstuvwxyz" : Str).length ≤ sizeLine := by decide +kernel
def pNames : PSpec := fun ds S Q => ∃ (b : Addr) (m : Int), ds = [.cel b, .int m] ∧ Box S b ∧ 0 ≤ m ∧ m ≤ 26 ∧ ∀ (ys : List Str) S', ys.length = m.toNat → (∀ y ∈ ys, isName y = true) → Box S' b → SB b S S' → Q (.lst (ys.map .str)) S'
end Pz

set_option Elab.async false
set_option linter.all false
set_option maxRecDepth 100000
set_option maxHeartbeats 4000000
namespace K01
open PySem PySem.Spec PyProof.Rows L2 Pz
def top (i : Nat) : Stmt := PySem.Challenge.pw_tipmeet_k01_names_judged.main.body.getD i (.Pass ⟨0, 0, 0, 0⟩)
abbrev FnP (K : PySem.W.Frag) (x : Str) (st : Stmt) (f : Addr) (fd : FuncData) : Prop := FunD K x x (defArgs st) (defBody st) (defScope st) [] [] f fd
local macro_rules | `(tactic| walk_at "w") => `(tactic| (try (simp only [wOp, wVar, wC, wB, wAsg, wRet, wDrop, gwName, gwSub, wIfS, wIf, wAndV, wOrV, wNotV, wNot, wAnd, wOr, wCB, wCons, wNil, wTup, wLst, wLstC, wCall, wPar, wAug, wAugS, wNext, wUn, wChain, wSl, wPart, wNoPart, wBM, wBM0, wIsi, wIsi2, fI0, fI, fLt, fLe, fGt, fGe, startD, List.map_cons, List.map_nil, List.length_cons, List.length_nil, List.replicate, List.cons_append, List.nil_append, Nat.reduceAdd, Nat.reduceSub, List.getElem?_cons_zero, List.getElem?_cons_succ, List.set_cons_zero, List.set_cons_succ])))
structure Txt (K : PySem.W.Frag) (mg : Str → Option Value) : Prop where
  len : mg "len" = none
  all : mg "all" = none
  range : mg "range" = none
  list : mg "list" = none
  tuple : mg "tuple" = none
  isinstance : mg "isinstance" = none
  bool : mg "bool" = none
  int : mg "int" = none
  str : mg "str" = none
  letters : ∃ t, mg "LETTERS" = some (.str "abcdefghijklmnopqrstuvwxyz" t)
  signs : ∃ t, mg "MOST_SIGNS" = some (.int 8 t)
section
variable {P : Program} {w : World} {K : PySem.W.Frag} {mg : Str → Option Value} {base : Heap} {f : Addr} {fd : FuncData}
abbrev sTake : Stmt := top 6
theorem scTake : FnScope ["_law_box_here", "_law_many", "_law_rest", "_law_one", "_law_mixed"] ["_law_box_here", "_law_many"] (defScope sTake) := ⟨rfl, rfl, rfl, by decide +kernel, rfl, by decide +kernel, by decide +kernel⟩
theorem ok_take (Fn : FnP K "_law_take" sTake f fd) (T : Txt K mg) : FnOk P w K mg base CX0 1 f fd ["_law_box_here", "_law_many"] (spP K pTake) := by
  have sc := scTake
  refine fn_pureD Fn scTake (fun ds S Q h => by obtain ⟨b, m, rfl, _⟩ := h; rfl) fun cdv A outer s H E hr => ⟨_,
   (dss_cons (ds_if (dt_gt (de_ixL (de_v 0) de_int) de_int)
      (dss_cons (ds_set (i := 2) sc.nd (de_ixL (de_v 0) de_int))
      (dss_cons (ds_asg (de_fdiv (de_v 2) (de_v 1)) (dg_subL (de_v 0) de_int))
      (dss_one (ds_ret (de_mod (de_v 2) (de_v 1))))))
      dss_nil)
      (dss_cons (ds_set (i := 3) sc.nd de_int)
      (dss_cut (ds_if (dt_lt (de_ixL (de_v 0) de_int) (de_lenL T.len (de_ixL (de_v 0) de_int)))
      (dss_one (ds_set (i := 3) sc.nd (de_ixL (de_ixL (de_v 0) de_int) (de_ixL (de_v 0) de_int))))
      dss_nil)
      (dss_cons (ds_augS (de_v 0) de_int de_int ip_add sr_ipAdd)
      (dss_cons (ds_if (dt_ge (de_v 3) (de_pow de_int de_int))
      (dss_cons (ds_asg (de_fdiv (de_v 3) (de_v 1)) (dg_subL (de_v 0) de_int))
      (dss_one (ds_ret (de_mod (de_v 3) (de_v 1)))))
      dss_nil)
      (dss_cons (ds_set (i := 4) sc.nd (de_mod (de_add (de_add (de_ixL (de_v 0) de_int) (de_mul (de_mod (de_v 3) de_int) de_int)) (de_mul (de_ixL (de_v 0) de_int) de_int)) de_int))
      (dss_cons (ds_set (i := 4) sc.nd (de_mod (de_add (de_add (de_mul (de_v 4) (de_v 4)) (de_mul de_int (de_v 4))) de_int) de_int))
      (dss_cons (ds_asg (de_mod (de_add (de_add (de_mul (de_v 4) de_int) (de_mod (de_ixL (de_v 0) de_int) de_int)) de_int) de_int) (dg_subL (de_v 0) de_int))
      (dss_one (ds_ret (de_mod (de_fdiv (de_ixL (de_v 0) de_int) de_int) (de_v 1)))))))))))), ?_⟩
  rintro ds S Q ⟨b, m, rfl, ⟨c, hb, ns, i, r, s, rfl, hi⟩, hm, hm2, k⟩
  have fin : ∀ (v i' r' s' : Int) (S' : Store), 0 ≤ v → v < m → 0 ≤ i' → S' b = some (.lst [.lst (ns.map .int), .int i', .int r', .int s']) → SB b S S' → Pz.Fin K Q (.int v) S' :=
    fun v i' r' s' S' h1 h2 h3 h4 h5 => Fin.here (k v S' h1 h2 ⟨_, h4, ns, i', r', s', rfl, h3⟩ h5)
  refine s_seq ?_
  walk_at "w"
  refine fIxL_to (lstOf_cel hb) (by rfl) ?_
  by_cases h : 0 < r
  · simp only [h, decide_true]
    refine s_seq ?_
    walk_at "w"
    refine fIxL_to (lstOf_cel hb) (by rfl) ?_
    refine s_seq ?_
    walk_at "w"
    refine ⟨⟨hm, hm2⟩, fSetL_to hb (by rfl) ?_⟩
    walk_at "w"
    exact ⟨hm, fin _ i _ s _ (Int.emod_nonneg _ (by omega)) (Int.emod_lt_of_pos _ hm) hi sset_same (SB.set _ _ _)⟩
  · simp only [h, decide_false]
    walk_at "w"
    refine s_seq ?_
    walk_at "w"
    refine ⟨fun env' S' => ∃ one : Int, env' = [some (.cel b), some (.int m), none, some (.int one), none] ∧ S' = S, ?_, ?_⟩
    · walk_at "w"
      refine fIxL_to (lstOf_cel hb) (by rfl) ?_
      refine fIxL_to (lstOf_cel hb) (by rfl) ?_
      refine fLenL_to (by rfl) ?_
      by_cases h1 : i < ((ns.map D.int).length : Int)
      · simp only [h1, decide_true]
        walk_at "w"
        refine fIxL_to (lstOf_cel hb) (by rfl) ?_
        refine fIxL_to (lstOf_cel hb) (by rfl) ?_
        obtain ⟨j, rfl⟩ : ∃ j : Nat, i = (j : Int) := ⟨i.toNat, by omega⟩
        have hj : j < ns.length := by rw [List.length_map] at h1; omega
        refine fIxL_to (d := .int ns[j]) (by rfl) (atD_nat (by rw [List.getElem?_map, List.getElem?_eq_getElem hj]; rfl)) ?_
        exact ⟨ns[j], rfl, rfl⟩
      · simp only [h1, decide_false]
        exact ⟨0, by first | rfl | trivial, by first | rfl | trivial⟩
    · rintro env' S' ⟨one, rfl, rfl⟩
      refine s_seq ?_
      walk_at "w"
      refine fIxL_to (lstOf_cel hb) (by rfl) ?_
      refine fSetL_to hb (by rfl) ?_
      have hb1 : sset S' b (.lst [.lst (ns.map .int), .int (i + 1), .int r, .int s]) b = some (.lst [.lst (ns.map .int), .int (i + 1), .int r, .int s]) := sset_same
      generalize hS1 : sset S' b (.lst [.lst (ns.map .int), .int (i + 1), .int r, .int s]) = S1 at hb1
      have sb1 : SB b S' S1 := by rw [← hS1]; exact SB.set _ _ _
      show wSeq _ _ _ _ (sset S' b (.lst [.lst (ns.map .int), .int (i + 1), .int r, .int s]))
      rw [hS1]
      refine s_seq ?_
      walk_at "w"
      refine ⟨⟨by decide, by decide, by decide⟩, ?_⟩
      by_cases h2 : (10 : Int) ^ (18 : Int).toNat ≤ one
      · simp only [h2, decide_true]
        refine s_seq ?_
        walk_at "w"
        refine ⟨⟨hm, hm2⟩, fSetL_to hb1 (by rfl) ?_⟩
        walk_at "w"
        exact ⟨hm, fin _ (i + 1) _ s _ (Int.emod_nonneg _ (by omega)) (Int.emod_lt_of_pos _ hm) (by omega) sset_same (sb1.trans (SB.set _ _ _))⟩
      · simp only [h2, decide_false]
        walk_at "w"
        refine s_seq ?_
        walk_at "w"
        refine fIxL_to (lstOf_cel hb1) (by rfl) ?_
        walk_at "w"
        refine ⟨by decide, .inr ⟨by decide, by decide⟩, fIxL_to (lstOf_cel hb1) (by rfl) ?_⟩
        refine ⟨.inr ⟨by decide, by decide⟩, by decide, ?_⟩
        generalize hx : (s + one % 2147483629 * 69621 + (i + 1) * 104729) % 2147483587 = x
        have hx1 : 0 ≤ x ∧ x < 2147483587 := by omega
        refine s_seq ?_
        walk_at "w"
        refine ⟨.inl ⟨by omega, by omega⟩, .inl ⟨by decide, by decide⟩, by decide, ?_⟩
        generalize hy : (x * x + 40961 * x + 77) % 2147483629 = y
        have hy1 : 0 ≤ y ∧ y < 2147483629 := by omega
        refine s_seq ?_
        walk_at "w"
        refine ⟨.inr ⟨by decide, by decide⟩, fIxL_to (lstOf_cel hb1) (by rfl) ?_⟩
        refine ⟨by decide, by decide, fSetL_to hb1 (by rfl) ?_⟩
        walk_at "w"
        refine fIxL_to (lstOf_cel sset_same) (by rfl) ?_
        refine ⟨⟨by decide, by decide⟩, hm, ?_⟩
        exact fin _ (i + 1) r _ _ (Int.emod_nonneg _ (by omega)) (Int.emod_lt_of_pos _ hm) (by omega) sset_same (sb1.trans (SB.set _ _ _))
end
end K01

set_option Elab.async false
set_option linter.all false
set_option maxRecDepth 100000
set_option maxHeartbeats 4000000
namespace K01
open PySem PySem.Spec PyProof.Rows L2 Pz
local macro_rules | `(tactic| walk_at "w") => `(tactic| (try (simp only [wOp, wVar, wC, wB, wAsg, wRet, wDrop, gwName, gwSub, wIfS, wIf, wAndV, wOrV, wNotV, wNot, wAnd, wOr, wCB, wCons, wNil, wTup, wLst, wLstC, wCall, wPar, wAug, wAugS, wNext, wUn, wChain, wSl, wPart, wNoPart, wBM, wBM0, wIsi, wIsi2, fI0, fI, fLt, fLe, fGt, fGe, startD, List.map_cons, List.map_nil, List.length_cons, List.length_nil, List.replicate, List.cons_append, List.nil_append, Nat.reduceAdd, Nat.reduceSub, List.getElem?_cons_zero, List.getElem?_cons_succ, List.set_cons_zero, List.set_cons_succ, wFor, wLc, wiL, wiR1, wiR2, wiS, wiT])))
section
variable {P : Program} {w : World} {K : PySem.W.Frag} {mg : Str → Option Value} {base : Heap} {f : Addr} {fd : FuncData}
theorem cutP_map {α : Type} (g : α → D) (ns : List α) (lo hi : Option Int) : ∃ ms : List α, cutP (ns.map g) lo hi = ms.map g ∧ ms.length ≤ ns.length := by
  refine ⟨(ns.drop (HT.sIx ns.length 0 lo)).take (HT.sIx ns.length ns.length hi - HT.sIx ns.length 0 lo), ?_, ?_⟩
  · unfold cutP
    rw [List.length_map, List.map_take, List.map_drop]
  · rw [List.length_take, List.length_drop]; omega
theorem scBox : FnScope ["_law_script", "_law_seed", "_law_one"] ["_law_script"] (defScope (top 5)) := ⟨rfl, rfl, rfl, by decide +kernel, rfl, by decide +kernel, by decide +kernel⟩
theorem ok_box (Fn : FnP K "_law_box" (top 5) f fd) (T : Txt K mg) : FnOk P w K mg base CX0 1 f fd ["_law_script"] (spP K pBox) := by
  have sc := scBox
  refine fn_pureD Fn scBox (fun ds S Q h => by obtain ⟨ns, rfl, _⟩ := h; rfl) fun cdv A outer s H E hr => ⟨_, (dss_cons (ds_set (i := 1) sc.nd de_int)
      (dss_cons (ds_for PassesOwn.never rfl (di_list (de_slL (de_v 0) do_none (do_some de_int))) (dg_name (i := 2) sc.nd)
      (dss_one (ds_set (i := 1) sc.nd (de_mod (de_add (de_add (de_mul (de_v 1) de_int) (de_mod (de_v 2) de_int)) de_int) de_int))))
      (dss_one (ds_ret (de_lstC (da_cons (de_list T.list (de_slL (de_v 0) do_none (do_some de_int))) (da_cons de_int (da_cons de_int (da_cons (de_v 1) da_nil))))))))), ?_⟩
  rintro ds S Q ⟨ns, rfl, hns, k⟩
  obtain ⟨ms, e, hms⟩ := cutP_map D.int ns none (some 63)
  refine s_seq ?_
  walk_at "w"
  refine s_seq ?_
  walk_at "w"
  simp only [fSlL, lstOf, e]
  refine for_go (fun i env S' => S' = S ∧ ∃ (seed : Int) (o : Option D), env = [some (.lst (ns.map .int)), some (.int seed), o]) ⟨rfl, 7919, none, rfl⟩ ?_ ?_
  · rintro i x env S' hx ⟨rfl, seed, o, rfl⟩
    rw [List.getElem?_map] at hx
    cases q : ms[i]? with
    | none => rw [q] at hx; cases hx
    | some n =>
      rw [q] at hx
      cases hx
      walk_at "w"
      exact ⟨.inr ⟨by decide, by decide⟩, by decide, by decide, by first | rfl | trivial, _, _, rfl⟩
  · rintro i env S' hx ⟨rfl, seed, o, rfl⟩
    walk_at "w"
    simp only [fSlL, lstOf, e, fList, seqOf]
    refine ⟨by decide, fun a ha => Fin.here (k a _ ha ⟨_, sset_same, ms, 0, 0, seed, rfl, Int.le_refl _⟩ (SB.set _ _ _))⟩

theorem scIs : FnScope ["text", "sign"] ["text"] (defScope (top 3)) := ⟨rfl, rfl, rfl, by decide +kernel, rfl, by decide +kernel, by decide +kernel⟩
theorem ok_isname (Fn : FnP K "is_name" (top 3) f fd) (T : Txt K mg) : FnOk P w K mg base CX0 1 f fd ["text"] (spP K pIsName) := by
  have sc := scIs
  obtain ⟨t1, hl⟩ := T.letters
  obtain ⟨t2, hs⟩ := T.signs
  refine fn_pureD Fn scIs (fun ds S Q h => by obtain ⟨z, rfl, _⟩ := h; rfl) fun cdv A outer s H E hr => ⟨_, (dss_one (ds_ret (de_and (de_chain op_le op_le sr_le sr_le de_int (de_lenS T.len (de_v 0)) (de_globI hs)) (de_one (de_all rfl T.all (de_lc (own := [("sign", 1)]) rfl sc.nd (di_str (de_v 0)) (blkOk_by (N := ["text", "sign"]) (sc := defScope (top 3)) (by decide +kernel)) (fun _ _ _ _ _ => (dg_name (i := 1) sc.nd)) (fun _ _ _ _ _ => dts_nil) (fun _ _ _ _ _ => (de_inS (de_v 1) (de_globS hl))))))))), ?_⟩
  rintro ds S Q ⟨z, rfl, hz, q⟩
  exact isname_w (i := 0) (j := 1) rfl (by decide) (by simp [startD]) hz (Fin.here q)

theorem scSame : FnScope ["_law_found", "_law_due", "_law_k"] ["_law_found", "_law_due"] (defScope (top 7)) := ⟨rfl, rfl, rfl, by decide +kernel, rfl, by decide +kernel, by decide +kernel⟩
theorem kb_list (t : String) (h : t = "NoneType" ∨ t = "bool" ∨ t = "int" ∨ t = "str" ∨ t = "list" ∨ t = "tuple") : kitB t "list" = some (decide (t = "list")) ∧ kitB t "tuple" = some (decide (t = "tuple")) ∧ kitB t "bool" = some (decide (t = "bool")) ∧ kitB t "int" = some (decide (t = "bool" ∨ t = "int")) ∧ kitB t "str" = some (decide (t = "str")) := by
  rcases h with rfl | rfl | rfl | rfl | rfl | rfl <;> decide +kernel
theorem ok_same (Fn : FnP K "_law_same" (top 7) f fd) (T : Txt K mg) (hm : mg "_law_same" = some (.ref f)) (hb : Binds K fd ["_law_found", "_law_due"] []) (n : Nat) : FnOk P w K mg base CX0 n f fd ["_law_found", "_law_due"] (spP K (pSame n)) := by
  induction n with
  | zero =>
    refine ⟨fun vs H Q E h => ?_, fun A outer s H args us vs Q E _ _ _ _ h => ?_⟩
    · obtain ⟨F, S, ds, Qp, ok, rs, ⟨x, y, _, hp, _⟩, post⟩ := h; cases hp
    · obtain ⟨F, S, ds, Qp, ok, rs, ⟨x, y, _, hp, _⟩, post⟩ := h; cases hp
  | succ n ih =>
    have sc := scSame
    have Cs : Callee P w K mg base n "_law_same" ["_law_found", "_law_due"] (pSame n) := ⟨f, fd, ih, hm, Fn.kp, hb⟩
    refine fn_pureD Fn scSame (fun ds S Q h => by obtain ⟨x, y, rfl, _⟩ := h; rfl) fun cdv A outer s H E hr => ⟨_, (dss_cons (ds_if (dt_val (de_isi2 (n := "list") (m := "tuple") T.isinstance (de_v 1) T.list T.tuple))
      (dss_cons (ds_if (DW.dt (dw_or (dt_ne (de_isi (n := "list") T.isinstance (de_v 0) T.list) (de_isi (n := "list") T.isinstance (de_v 1) T.list)) (dw_or1 (dt_ne (de_isi (n := "tuple") T.isinstance (de_v 0) T.tuple) (de_isi (n := "tuple") T.isinstance (de_v 1) T.tuple)))))
      (dss_one (ds_ret de_bl))
      dss_nil)
      (dss_one (ds_ret (de_and (de_eq (de_lenL T.len (de_v 0)) (de_lenL T.len (de_v 1))) (de_one (de_all rfl T.all (de_lc (own := [("_law_k", 2)]) rfl sc.nd (di_range1 T.range (de_lenL T.len (de_v 1))) (blkOk_by (N := ["_law_found", "_law_due", "_law_k"]) (sc := defScope (top 7)) (by decide +kernel)) (fun _ _ _ _ _ => (dg_name (i := 2) sc.nd)) (fun _ _ _ _ _ => dts_nil) (fun _ _ _ _ _ => (de_f Cs (hr.mono (by first | exact Nat.le_refl _ | decide | omega)) (da_cons (de_ixQ (de_v 0) (de_v 2)) (da_cons (de_ixQ (de_v 1) (de_v 2)) da_nil)))))))))))
      dss_nil)
      (dss_cons (ds_if (DW.dt (dw_or (dt_ne (de_isi (n := "bool") T.isinstance (de_v 1) T.bool) (de_isi (n := "bool") T.isinstance (de_v 0) T.bool)) (dw_or1 (dt_ne (de_isi (n := "int") T.isinstance (de_v 1) T.int) (de_isi (n := "int") T.isinstance (de_v 0) T.int)))))
      (dss_one (ds_ret de_bl))
      dss_nil)
      (dss_one (ds_ret (de_and (de_eq (de_isi (n := "str") T.isinstance (de_v 1) T.str) (de_isi (n := "str") T.isinstance (de_v 0) T.str)) (de_one (de_eq (de_v 0) (de_v 1)))))))), ?_⟩
    rintro ds S Q ⟨x, y, rfl, hp, q⟩
    have seqs : ∀ (xs ys : List D), ys.length ≤ 100000 → (∀ (i : Nat) x y, xs[i]? = some x → ys[i]? = some y → OkS n x y) → seqOf S x = some xs → seqOf S y = some ys → sameD x y = (decide (xs.length = ys.length) && sameDs xs ys) →
        (wRet (wAndV (wOp fEq (wCB fLenL (wCons (wVar 0) wNil)) (wCB fLenL (wCons (wVar 1) wNil))) (wCB fAll (wCons (wLc (wiR1 (wCB fLenL (wCons (wVar 1) wNil))) (gwName 2) wYes (wCall (pSame n) (wCons (wOp fIxQ (wVar 0) (wVar 2)) (wCons (wOp fIxQ (wVar 1) (wVar 2)) wNil))) [2]) wNil)))) { nx := fun _ _ => False, rt := Pz.Fin K Q } [some x, some y, none] S := by
      intro xs ys hl hok ex ey es
      walk_at "w"
      refine fLenL_to ex (fLenL_to ey ?_)
      have en : decide (((xs.length : Nat) : Int) = ((ys.length : Nat) : Int)) = decide (xs.length = ys.length) := decide_eq_decide.mpr (by omega)
      simp only [fEq, eqS, en]
      rw [es] at q
      by_cases hlen : xs.length = ys.length
      · simp only [hlen, decide_true, Bool.true_and] at q ⊢
        refine fLenL_to ey ?_
        walk_at "w"
        have h100 := sizeLine_big
        refine ⟨by omega, ?_⟩
        rw [Int.toNat_natCast, rangeD_eq]
        refine lc_map (fun k => D.bl (match xs[k]?, ys[k]? with | some x, some y => sameD x y | _, _ => true)) (by rw [List.length_range]; omega) (fun k hk R r => ?_) ?_
        · have hk1 : k < ys.length := List.mem_range.mp hk
          have hk2 : k < xs.length := by omega
          walk_at "w"
          simp only [wipeD, List.set_cons_zero, List.set_cons_succ, List.getElem?_cons_zero, List.getElem?_cons_succ, Int.zero_add]
          refine fIxQ_to ex (atD_nat (List.getElem?_eq_getElem hk2)) (fIxQ_to ey (atD_nat (List.getElem?_eq_getElem hk1)) ?_)
          rw [List.getElem?_eq_getElem hk1, List.getElem?_eq_getElem hk2] at r
          exact ⟨xs[k], ys[k], rfl, hok k _ _ (List.getElem?_eq_getElem hk2) (List.getElem?_eq_getElem hk1), r⟩
        · have e1 : (List.range ys.length).map (fun k => D.bl (match xs[k]?, ys[k]? with | some x, some y => sameD x y | _, _ => true)) = ((List.range ys.length).map fun k => match xs[k]?, ys[k]? with | some x, some y => sameD x y | _, _ => true).map D.bl := by rw [List.map_map]; rfl
          rw [e1]
          simp only [fAll, lstOf, blsOf_map]
          rw [sameDs_all xs ys hlen] at q
          exact Fin.here q
      · simp only [hlen, decide_false, Bool.false_and] at q ⊢
        exact Fin.here q
    refine s_seq ?_
    cases hp with
    | sc hx hy =>
      cases x <;> simp only [isSc, reduceCtorEq] at hx <;> cases y <;> simp only [isSc, reduceCtorEq] at hy
      all_goals
        walk_at "w"
        simp only [fIsi2, tyName, kt_NoneType_list, kt_NoneType_tuple, kt_NoneType_bool, kt_NoneType_int, kt_NoneType_str, kt_bool_list, kt_bool_tuple, kt_bool_bool, kt_bool_int, kt_bool_str, kt_int_list, kt_int_tuple, kt_int_bool, kt_int_int, kt_int_str, kt_str_list, kt_str_tuple, kt_str_bool, kt_str_int, kt_str_str, kt_list_list, kt_list_tuple, kt_list_bool, kt_list_int, kt_list_str, kt_tuple_list, kt_tuple_tuple, kt_tuple_bool, kt_tuple_int, kt_tuple_str, Bool.or_false, Bool.or_self]
        refine s_seq ?_
        walk_at "w"
        simp only [fIsi, tyName, kt_NoneType_list, kt_NoneType_tuple, kt_NoneType_bool, kt_NoneType_int, kt_NoneType_str, kt_bool_list, kt_bool_tuple, kt_bool_bool, kt_bool_int, kt_bool_str, kt_int_list, kt_int_tuple, kt_int_bool, kt_int_int, kt_int_str, kt_str_list, kt_str_tuple, kt_str_bool, kt_str_int, kt_str_str, kt_list_list, kt_list_tuple, kt_list_bool, kt_list_int, kt_list_str, kt_tuple_list, kt_tuple_tuple, kt_tuple_bool, kt_tuple_int, kt_tuple_str, fNe, fEq, eqS, decide_true, decide_false, Bool.not_true, Bool.not_false, reduceCtorEq]
        exact Fin.here q
    | lst hl hok =>
      rename_i xs ys
      walk_at "w"
      simp only [fIsi2, tyName, kt_NoneType_list, kt_NoneType_tuple, kt_NoneType_bool, kt_NoneType_int, kt_NoneType_str, kt_bool_list, kt_bool_tuple, kt_bool_bool, kt_bool_int, kt_bool_str, kt_int_list, kt_int_tuple, kt_int_bool, kt_int_int, kt_int_str, kt_str_list, kt_str_tuple, kt_str_bool, kt_str_int, kt_str_str, kt_list_list, kt_list_tuple, kt_list_bool, kt_list_int, kt_list_str, kt_tuple_list, kt_tuple_tuple, kt_tuple_bool, kt_tuple_int, kt_tuple_str, Bool.or_false]
      refine s_seq ?_
      walk_at "w"
      simp only [fIsi, tyName, kt_NoneType_list, kt_NoneType_tuple, kt_NoneType_bool, kt_NoneType_int, kt_NoneType_str, kt_bool_list, kt_bool_tuple, kt_bool_bool, kt_bool_int, kt_bool_str, kt_int_list, kt_int_tuple, kt_int_bool, kt_int_int, kt_int_str, kt_str_list, kt_str_tuple, kt_str_bool, kt_str_int, kt_str_str, kt_list_list, kt_list_tuple, kt_list_bool, kt_list_int, kt_list_str, kt_tuple_list, kt_tuple_tuple, kt_tuple_bool, kt_tuple_int, kt_tuple_str, fNe, fEq, eqS, decide_true, decide_false, Bool.not_true, Bool.not_false, reduceCtorEq]
      exact seqs xs ys hl hok rfl rfl rfl
    | tup hl hok =>
      rename_i xs ys
      walk_at "w"
      simp only [fIsi2, tyName, kt_NoneType_list, kt_NoneType_tuple, kt_NoneType_bool, kt_NoneType_int, kt_NoneType_str, kt_bool_list, kt_bool_tuple, kt_bool_bool, kt_bool_int, kt_bool_str, kt_int_list, kt_int_tuple, kt_int_bool, kt_int_int, kt_int_str, kt_str_list, kt_str_tuple, kt_str_bool, kt_str_int, kt_str_str, kt_list_list, kt_list_tuple, kt_list_bool, kt_list_int, kt_list_str, kt_tuple_list, kt_tuple_tuple, kt_tuple_bool, kt_tuple_int, kt_tuple_str, Bool.false_or]
      refine s_seq ?_
      walk_at "w"
      simp only [fIsi, tyName, kt_NoneType_list, kt_NoneType_tuple, kt_NoneType_bool, kt_NoneType_int, kt_NoneType_str, kt_bool_list, kt_bool_tuple, kt_bool_bool, kt_bool_int, kt_bool_str, kt_int_list, kt_int_tuple, kt_int_bool, kt_int_int, kt_int_str, kt_str_list, kt_str_tuple, kt_str_bool, kt_str_int, kt_str_str, kt_list_list, kt_list_tuple, kt_list_bool, kt_list_int, kt_list_str, kt_tuple_list, kt_tuple_tuple, kt_tuple_bool, kt_tuple_int, kt_tuple_str, fNe, fEq, eqS, decide_true, decide_false, Bool.not_true, Bool.not_false, reduceCtorEq]
      exact seqs xs ys hl hok rfl rfl rfl
end
end K01

set_option Elab.async false
set_option linter.all false
set_option maxRecDepth 100000
set_option maxHeartbeats 4000000
namespace K01
open PySem PySem.Spec PyProof.Rows L2 Pz
local macro_rules | `(tactic| walk_at "w") => `(tactic| (try (simp only [wOp, wVar, wC, wB, wAsg, wRet, wDrop, gwName, gwSub, wIfS, wIf, wAndV, wOrV, wNotV, wNot, wAnd, wOr, wCB, wCons, wNil, wTup, wLst, wLstC, wCall, wPar, wAug, wAugS, wNext, wUn, wChain, wSl, wPart, wNoPart, wBM, wBM0, wIsi, wIsi2, fI0, fI, fLt, fLe, fGt, fGe, startD, List.map_cons, List.map_nil, List.length_cons, List.length_nil, List.replicate, List.cons_append, List.nil_append, Nat.reduceAdd, Nat.reduceSub, List.getElem?_cons_zero, List.getElem?_cons_succ, List.set_cons_zero, List.set_cons_succ, gwTup, gwCons, gwNil, true_and, wFor, wLc, wiL, wiR1, wiR2, wiS, wiT, wipeD])))
section
variable {P : Program} {w : World} {K : PySem.W.Frag} {mg : Str → Option Value} {base : Heap} {f : Addr} {fd : FuncData}
theorem scNames : FnScope ["_law_box_here", "_law_many", "_law_letters", "_law_first", "_law_stride", "_law_stem", "_law_k", "_law_spot", "_law_mixed", "_law_signs", "_law_rows"] ["_law_box_here", "_law_many"] (defScope (top 8)) := ⟨rfl, rfl, rfl, by decide +kernel, rfl, by decide +kernel, by decide +kernel⟩
theorem ok_names (Fn : FnP K "_law_names" (top 8) f fd) (T : Txt K mg) (Ct : Callee P w K mg base 1 "_law_take" ["_law_box_here", "_law_many"] pTake) : FnOk P w K mg base CX0 2 f fd ["_law_box_here", "_law_many"] (spP K pNames) := by
  have sc := scNames
  refine fn_pureD Fn scNames (fun ds S Q h => by obtain ⟨b, m, rfl, _⟩ := h; rfl) fun cdv A outer s H E hr => ⟨_, (dss_cons (ds_set (i := 2) sc.nd de_str)
      (dss_cons (ds_asg (de_tup (da_cons (de_f Ct (hr.mono (by first | exact Nat.le_refl _ | decide | omega)) (da_cons (de_v 0) (da_cons de_int da_nil))) (da_cons (de_ixL (de_lst (da_cons de_int (da_cons de_int (da_cons de_int (da_cons de_int (da_cons de_int (da_cons de_int da_nil))))))) (de_f Ct (hr.mono (by first | exact Nat.le_refl _ | decide | omega)) (da_cons (de_v 0) (da_cons de_int da_nil)))) da_nil))) (dg_tup (n := 2) rfl (dgs_cons (dg_name (i := 3) sc.nd) (dgs_cons (dg_name (i := 4) sc.nd) dgs_nil))))
      (dss_cons (ds_set (i := 5) sc.nd (de_join de_str (da_cons (de_lc (own := [("_law_k", 6)]) rfl sc.nd (di_range1 T.range (de_f Ct (hr.mono (by first | exact Nat.le_refl _ | decide | omega)) (da_cons (de_v 0) (da_cons de_int da_nil)))) (blkOk_by (N := ["_law_box_here", "_law_many", "_law_letters", "_law_first", "_law_stride", "_law_stem", "_law_k", "_law_spot", "_law_mixed", "_law_signs", "_law_rows"]) (sc := defScope (top 8)) (by decide +kernel)) (fun _ _ _ _ _ => (dg_name (i := 6) sc.nd)) (fun _ _ _ _ _ => dts_nil) (fun _ _ _ _ _ => (de_ixS (de_v 2) (de_f Ct (hr.mono (by first | exact Nat.le_refl _ | decide | omega)) (da_cons (de_v 0) (da_cons de_int da_nil)))))) da_nil)))
      (dss_cons (ds_asg (de_tup (da_cons (de_f Ct (hr.mono (by first | exact Nat.le_refl _ | decide | omega)) (da_cons (de_v 0) (da_cons (de_add (de_lenS T.len (de_v 5)) de_int) da_nil))) (da_cons (de_f Ct (hr.mono (by first | exact Nat.le_refl _ | decide | omega)) (da_cons (de_v 0) (da_cons de_int da_nil))) da_nil))) (dg_tup (n := 2) rfl (dgs_cons (dg_name (i := 7) sc.nd) (dgs_cons (dg_name (i := 8) sc.nd) dgs_nil))))
      (dss_cons (ds_set (i := 9) sc.nd (de_lc (own := [("_law_k", 6)]) rfl sc.nd (di_range1 T.range (de_v 1)) (blkOk_by (N := ["_law_box_here", "_law_many", "_law_letters", "_law_first", "_law_stride", "_law_stem", "_law_k", "_law_spot", "_law_mixed", "_law_signs", "_law_rows"]) (sc := defScope (top 8)) (by decide +kernel)) (fun _ _ _ _ _ => (dg_name (i := 6) sc.nd)) (fun _ _ _ _ _ => dts_nil) (fun _ _ _ _ _ => (de_ixS (de_v 2) (de_mod (de_add (de_v 3) (de_mul (de_v 4) (de_v 6))) de_int)))))
      (dss_cons (ds_set (i := 10) sc.nd (de_lc (own := [("_law_k", 6)]) rfl sc.nd (di_range1 T.range (de_v 1)) (blkOk_by (N := ["_law_box_here", "_law_many", "_law_letters", "_law_first", "_law_stride", "_law_stem", "_law_k", "_law_spot", "_law_mixed", "_law_signs", "_law_rows"]) (sc := defScope (top 8)) (by decide +kernel)) (fun _ _ _ _ _ => (dg_name (i := 6) sc.nd)) (fun _ _ _ _ _ => dts_nil) (fun _ _ _ _ _ => (de_tup (da_cons (de_addS (de_addS (de_slS (de_v 5) do_none (do_some (de_v 7))) (de_ixL (de_v 9) (de_v 6))) (de_slS (de_v 5) (do_some (de_v 7)) do_none)) (da_cons (de_addS (de_addS (de_ixL (de_v 9) (de_v 6)) (de_slS (de_v 5) do_none (do_some (de_mod (de_v 6) de_int)))) (de_ixL (de_v 9) (de_v 6))) da_nil))))))
      (dss_one (ds_ret (de_lc (own := [("_law_k", 6)]) rfl sc.nd (di_range1 T.range (de_v 1)) (blkOk_by (N := ["_law_box_here", "_law_many", "_law_letters", "_law_first", "_law_stride", "_law_stem", "_law_k", "_law_spot", "_law_mixed", "_law_signs", "_law_rows"]) (sc := defScope (top 8)) (by decide +kernel)) (fun _ _ _ _ _ => (dg_name (i := 6) sc.nd)) (fun _ _ _ _ _ => dts_nil) (fun _ _ _ _ _ => (de_ixT (de_ixL (de_v 10) (de_v 6)) (de_mod (de_mul (de_v 8) (de_v 6)) de_int)))))))))))), ?_⟩
  rintro ds S Q ⟨b, m, rfl, hB, hm0, hm, k⟩
  have h100 := sizeLine_big
  refine s_seq ?_
  walk_at "w"
  refine s_seq ?_
  walk_at "w"
  -- first, stride
  refine ⟨b, 26, rfl, hB, by decide, by decide, fun first S1 f0 f1 B1 sb1 => ?_⟩
  refine ⟨by decide, b, 6, rfl, B1, by decide, by decide, fun r2 S2 g0 g1 B2 sb2 => ?_⟩
  obtain ⟨d, ed, md⟩ := atD_mem (xs := [D.int 1, .int 3, .int 5, .int 7, .int 9, .int 11]) g0 (by simpa using g1)
  obtain ⟨st, rfl, st0, st1⟩ : ∃ st : Int, d = .int st ∧ 0 ≤ st ∧ st ≤ 11 := by
    simp only [List.mem_cons, List.not_mem_nil, or_false] at md
    rcases md with rfl | rfl | rfl | rfl | rfl | rfl <;> exact ⟨_, rfl, by decide, by decide⟩
  refine fIxL_to (by rfl) ed ?_
  refine ⟨by decide, ?_⟩
  walk_at "w"
  -- stem
  refine s_seq ?_
  walk_at "w"
  refine ⟨rfl, b, 8, rfl, B2, by decide, by decide, fun r3 S3 i0 i1 B3 sb3 => ?_⟩
  refine ⟨⟨by omega, by omega⟩, ?_⟩
  rw [rangeD_eq]
  refine lc_run (J := fun i acc S' => Box S' b ∧ SB b S3 S' ∧ ∃ cs : List Nat, acc = cs.map (fun c => D.str ⟨#[c]⟩) ∧ ∀ c ∈ cs, c ∈ letters) (by rw [List.length_range]; omega) ⟨B3, SB.refl _ _, [], rfl, by simp⟩ ?_ ?_
  · rintro i y acc S' _ hacc ⟨B, sb, cs, rfl, hcs⟩ R hR
    walk_at "w"
    refine ⟨b, 26, rfl, B, by decide, by decide, fun r S'' q0 q1 B' sb' => ?_⟩
    obtain ⟨c, ec, mc⟩ := atI_mem (xs := letters) q0 (by rw [letters_len]; exact q1)
    refine fIxS_to alpha_len ec (hR _ _ ⟨B', sb.trans sb', cs ++ [c], by simp, ?_⟩)
    intro x hx
    rcases List.mem_append.mp hx with hx | hx
    · exact hcs x hx
    · rw [List.mem_singleton.mp hx]; exact mc
  rintro acc S4 hacc ⟨B4, sb4, cs, rfl, hcs⟩
  have hlen : cs.length ≤ 7 := by
    rw [List.length_map, List.length_range] at hacc
    omega
  have e1 : cs.map (fun c => D.str ⟨#[c]⟩) = (cs.map fun c => (⟨#[c]⟩ : Str)).map D.str := by rw [List.map_map]; rfl
  simp only [fJoin, seqOf, e1, strsOf_map]
  refine ⟨?_, ?_⟩
  · rw [List.map_map]
    have e2 := sum_ones cs
    have e3 : ("" : Str).length = 0 := rfl
    rw [e3, Nat.mul_zero]
    omega
  have ecs := codes_join_ones cs
  generalize Txt.join "" (cs.map fun c => (⟨#[c]⟩ : Str)) = stem at ecs ⊢
  have lstem : stem.length ≤ 7 := by rw [← len_codes, ecs]; exact hlen
  -- spot, mixed
  refine s_seq ?_
  walk_at "w"
  simp only [fLenS]
  refine ⟨by omega, b, _, rfl, B4, by omega, by omega, fun spot S5 j0 j1 B5 sb5 => ?_⟩
  refine ⟨b, 2, rfl, B5, by decide, by decide, fun mixed S6 l0 l1 B6 sb6 => ?_⟩
  refine ⟨by decide, ?_⟩
  walk_at "w"
  have sb06 : SB b S S6 := ((((sb1.trans sb2).trans sb3).trans sb4).trans sb5).trans sb6
  obtain ⟨sp, rfl⟩ : ∃ sp : Nat, spot = (sp : Int) := ⟨spot.toNat, by omega⟩
  obtain ⟨mm, rfl⟩ : ∃ mm : Nat, m = (mm : Int) := ⟨m.toNat, by omega⟩
  have hmm : mm ≤ 26 := by omega
  -- signs
  refine s_seq ?_
  walk_at "w"
  refine ⟨⟨by omega, by omega⟩, ?_⟩
  rw [rangeD_eq, Int.toNat_natCast]
  refine lc_run (J := fun i acc S' => S' = S6 ∧ ∃ cs : List Nat, acc = cs.map (fun c => D.str ⟨#[c]⟩) ∧ ∀ c ∈ cs, c ∈ letters) (by rw [List.length_range]; omega) ⟨rfl, [], rfl, by simp⟩ ?_ ?_
  · rintro i y acc S' hy hacc ⟨rfl, cs, rfl, hcs⟩ R hR
    have hy1 : y < mm := List.mem_range.mp (List.mem_of_getElem? hy)
    walk_at "w"
    refine ⟨.inl ⟨by omega, by omega⟩, by decide, ?_⟩
    obtain ⟨c, ec, mc⟩ := atI_mem (xs := letters) (r := (first + st * (0 + (y : Int))) % 26) (by omega) (by rw [letters_len]; omega)
    refine fIxS_to alpha_len ec (hR _ _ ⟨rfl, cs ++ [c], by simp, ?_⟩)
    intro x hx
    rcases List.mem_append.mp hx with hx | hx
    · exact hcs x hx
    · rw [List.mem_singleton.mp hx]; exact mc
  rintro acc S7 hacc ⟨rfl, sg, rfl, hsg⟩
  have lsg : sg.length = mm := by rw [List.length_map, List.length_range] at hacc; exact hacc
  -- rows
  refine s_seq ?_
  walk_at "w"
  refine ⟨⟨by omega, by omega⟩, ?_⟩
  rw [rangeD_eq, Int.toNat_natCast]
  refine lc_run (J := fun i acc S' => S' = S7 ∧ ∀ d ∈ acc, ∃ u v : Str, d = .tup [.str u, .str v] ∧ isName u = true ∧ isName v = true) (by rw [List.length_range]; omega) ⟨rfl, by simp⟩ ?_ ?_
  · rintro i y acc S' hy hacc ⟨rfl, hall⟩ R hR
    have hy1 : y < sg.length := by rw [lsg]; exact List.mem_range.mp (List.mem_of_getElem? hy)
    have esg : atD (sg.map fun c => D.str ⟨#[c]⟩) (0 + (y : Int)) = some (.str ⟨#[sg[y]]⟩) := by
      rw [Int.zero_add]
      exact atD_nat (by rw [List.getElem?_map, List.getElem?_eq_getElem hy1]; rfl)
    have hc : sg[y] ∈ letters := hsg _ (List.getElem_mem hy1)
    generalize sg[y] = c at esg hc
    have lc1 := len_cut stem none (some (sp : Int))
    have lc2 := len_cut stem (some (sp : Int)) none
    have l1 := len_one c
    walk_at "w"
    refine fSlS_to (by omega) ?_
    refine fIxL_to (by rfl) esg ?_
    refine fAddS_to (by omega) ?_
    refine fSlS_to (by omega) ?_
    refine fAddS_to (by rw [len_app]; omega) ?_
    refine fIxL_to (by rfl) esg ?_
    refine ⟨by decide, ?_⟩
    have ey : (0 + (y : Int)) % 3 = ((y % 3 : Nat) : Int) := by omega
    rw [ey]
    have lc3 := len_cut stem none (some ((y % 3 : Nat) : Int))
    refine fSlS_to (by omega) ?_
    refine fAddS_to (by omega) ?_
    refine fIxL_to (by rfl) esg ?_
    refine fAddS_to (by rw [len_app]; omega) ?_
    refine ⟨by decide, hR _ _ ⟨rfl, ?_⟩⟩
    intro d hd
    rcases List.mem_append.mp hd with hd | hd
    · exact hall d hd
    · rw [List.mem_singleton.mp hd]
      refine ⟨_, _, rfl, isName_of ?_ ?_ ?_, isName_of ?_ ?_ ?_⟩
      · rw [codes_app, codes_app, codes_one]; simp only [List.length_append, List.length_cons, List.length_nil]; omega
      · rw [codes_app, codes_app, codes_one, cut_to, cut_from, ecs]
        simp only [List.length_append, List.length_take, List.length_drop, List.length_cons, List.length_nil]
        omega
      · rw [codes_app, codes_app, codes_one, cut_to, cut_from, ecs]
        intro x hx
        simp only [List.mem_append, List.mem_singleton] at hx
        rcases hx with (hx | rfl) | hx
        · exact hcs x (List.mem_of_mem_take hx)
        · exact hc
        · exact hcs x (List.mem_of_mem_drop hx)
      · rw [codes_app, codes_app, codes_one]; simp only [List.length_append, List.length_cons, List.length_nil]; omega
      · rw [codes_app, codes_app, codes_one, cut_to, ecs]
        simp only [List.length_append, List.length_take, List.length_cons, List.length_nil]
        omega
      · rw [codes_app, codes_app, codes_one, cut_to, ecs]
        intro x hx
        simp only [List.mem_append, List.mem_singleton] at hx
        rcases hx with (rfl | hx) | rfl
        · exact hc
        · exact hcs x (List.mem_of_mem_take hx)
        · exact hc
  rintro rows S8 hrows ⟨rfl, hall⟩
  rw [List.length_range] at hrows
  -- the names
  walk_at "w"
  refine ⟨⟨by omega, by omega⟩, ?_⟩
  try simp only [rangeD_eq, Int.toNat_natCast]
  refine lc_run (J := fun i acc S' => S' = S8 ∧ ∃ ys : List Str, acc = ys.map D.str ∧ ∀ y ∈ ys, isName y = true) (by rw [List.length_range]; omega) ⟨rfl, [], rfl, by simp⟩ ?_ ?_
  · rintro i y acc S' hy hacc ⟨rfl, ys, rfl, hys⟩ R hR
    have hy1 : y < rows.length := by rw [hrows]; exact List.mem_range.mp (List.mem_of_getElem? hy)
    obtain ⟨u, v, er, nu, nv⟩ := hall _ (List.getElem_mem hy1)
    walk_at "w"
    rw [Int.zero_add]
    refine fIxL_to (by rfl) (atD_nat (by rw [List.getElem?_eq_getElem hy1, er])) ?_
    refine ⟨.inl ⟨by omega, by omega⟩, by decide, ?_⟩
    have hz : mixed * (y : Int) % 2 = 0 ∨ mixed * (y : Int) % 2 = 1 := by omega
    have fin : ∀ z : Str, isName z = true → R (.str z) S' := fun z hz => hR _ _ ⟨rfl, ys ++ [z], by simp, fun x hx => by
      rcases List.mem_append.mp hx with hx | hx
      · exact hys x hx
      · rw [List.mem_singleton.mp hx]; exact hz⟩
    rcases hz with hz | hz
    · rw [hz]; exact fIxT_to (by rfl) (fin u nu)
    · rw [hz]; exact fIxT_to (by rfl) (fin v nv)
  · rintro acc S9 hacc ⟨rfl, ys, rfl, hys⟩
    rw [List.length_map, List.length_range] at hacc
    exact Fin.here (k ys _ (by rw [hacc]; rfl) hys B6 sb06)
end
end K01

set_option Elab.async false
set_option linter.all false
set_option maxRecDepth 100000
set_option maxHeartbeats 4000000
namespace K01
open PySem PySem.Spec PyProof.Rows L2 Pz
local macro_rules | `(tactic| walk_at "w") => `(tactic| (try (simp only [wOp, wVar, wC, wB, wAsg, wRet, wDrop, gwName, gwSub, wIfS, wIf, wAndV, wOrV, wNotV, wNot, wAnd, wOr, wCB, wCons, wNil, wTup, wLst, wLstC, wCall, wPar, wAug, wAugS, wNext, wUn, wChain, wSl, wPart, wNoPart, wBM, wBM0, wIsi, wIsi2, fI0, fI, fLt, fLe, fGt, fGe, startD, List.map_cons, List.map_nil, List.length_cons, List.length_nil, List.replicate, List.cons_append, List.nil_append, Nat.reduceAdd, Nat.reduceSub, List.getElem?_cons_zero, List.getElem?_cons_succ, List.set_cons_zero, List.set_cons_succ, gwTup, gwCons, gwNil, true_and, wFor, wLc, wiL, wiR1, wiR2, wiS, wiT, wipeD])))
section
variable {P : Program} {w : World} {K : PySem.W.Frag} {mg : Str → Option Value} {base : Heap} {f : Addr} {fd : FuncData}
def pBent : PSpec := fun ds S Q => ∃ (b : Addr) (z : Str), ds = [.cel b, .str z] ∧ Box S b ∧ z.length ≤ 9 ∧ ∀ (t : Str) S', t.length ≤ 100 → Box S' b → SB b S S' → Q (.str t) S'
theorem mul_ok {z : Str} (h : z.length ≤ 9) : MulOk z 9 := by
  refine ⟨by decide, fun _ _ => ?_, fun _ _ => ?_⟩
  · omega
  · unfold Builtin.Str.tooLong
    have := sizeLine_big
    rw [decide_eq_false_iff_not]
    have e : (9 : Int).toNat = 9 := rfl
    rw [e]
    omega
theorem mul_len {z : Str} (h : z.length ≤ 9) : (Txt.mul z 9).length ≤ sizeLine := by
  have h100 := sizeLine_big
  unfold Txt.mul
  rw [if_neg (by decide)]
  split
  · omega
  · refine fits_reps ?_
    have e : (9 : Int).toNat = 9 := rfl
    rw [e]
    unfold Builtin.Str.tooLong
    rw [decide_eq_false_iff_not]
    omega
theorem scBent : FnScope ["_law_box_here", "_law_name", "_law_at", "_law_sign", "_law_way"] ["_law_box_here", "_law_name"] (defScope (top 9)) := ⟨rfl, rfl, rfl, by decide +kernel, rfl, by decide +kernel, by decide +kernel⟩
theorem ok_bent (Fn : FnP K "_law_bent" (top 9) f fd) (T : Txt K mg) (Ct : Callee P w K mg base 1 "_law_take" ["_law_box_here", "_law_many"] pTake) : FnOk P w K mg base CX0 2 f fd ["_law_box_here", "_law_name"] (spP K pBent) := by
  have sc := scBent
  refine fn_pureD Fn scBent (fun ds S Q h => by obtain ⟨b, m, rfl, _⟩ := h; rfl) fun cdv A outer s H E hr => ⟨_, (dss_cons (ds_set (i := 2) sc.nd (de_f Ct (hr.mono (by first | exact Nat.le_refl _ | decide | omega)) (da_cons (de_v 0) (da_cons (de_add (de_lenS T.len (de_v 1)) de_int) da_nil))))
      (dss_cons (ds_set (i := 3) sc.nd (de_ixS de_str (de_f Ct (hr.mono (by first | exact Nat.le_refl _ | decide | omega)) (da_cons (de_v 0) (da_cons de_int da_nil)))))
      (dss_cons (ds_set (i := 4) sc.nd (de_f Ct (hr.mono (by first | exact Nat.le_refl _ | decide | omega)) (da_cons (de_v 0) (da_cons de_int da_nil))))
      (dss_cons (ds_if (dt_eq (de_v 4) de_int)
      (dss_one (ds_ret (de_addS (de_addS (de_slS (de_v 1) do_none (do_some (de_v 2))) (de_v 3)) (de_slS (de_v 1) (do_some (de_v 2)) do_none))))
      dss_nil)
      (dss_cons (ds_if (dt_eq (de_v 4) de_int)
      (dss_one (ds_ret (de_addS (de_addS (de_slS (de_v 1) do_none (do_some (de_v 2))) (de_v 3)) (de_slS (de_v 1) (do_some (de_add (de_v 2) de_int)) do_none))))
      dss_nil)
      (dss_cons (ds_if (dt_eq (de_v 4) de_int)
      (dss_one (ds_ret (de_slS (de_mulS (de_v 1) de_int) do_none (do_some (de_add de_int (de_f Ct (hr.mono (by first | exact Nat.le_refl _ | decide | omega)) (da_cons (de_v 0) (da_cons de_int da_nil))))))))
      dss_nil)
      (dss_cons (ds_if (dt_eq (de_v 4) de_int)
      (dss_one (ds_ret (de_ixL (de_lst (da_cons de_str (da_cons (de_upper (de_v 1)) (da_cons (de_addS (de_v 1) de_str) (da_cons (de_addS de_str (de_v 1)) da_nil))))) (de_f Ct (hr.mono (by first | exact Nat.le_refl _ | decide | omega)) (da_cons (de_v 0) (da_cons de_int da_nil))))))
      dss_nil)
      (dss_one (ds_ret (de_v 1)))))))))), ?_⟩
  rintro ds S Q ⟨b, z, rfl, hB, hz, k⟩
  have h100 := sizeLine_big
  refine s_seq ?_
  walk_at "w"
  simp only [fLenS]
  refine ⟨by omega, b, _, rfl, hB, by omega, by omega, fun at_ S1 a0 a1 B1 sb1 => ?_⟩
  refine s_seq ?_
  walk_at "w"
  refine ⟨b, 10, rfl, B1, by decide, by decide, fun r S2 b0 b1 B2 sb2 => ?_⟩
  obtain ⟨c, ec, mc⟩ := atI_mem (xs := ("A_-9 .~zQ0" : Str).cps.toList) b0 (by
    have e : ("A_-9 .~zQ0" : Str).cps.toList.length = 10 := by decide +kernel
    rw [e]; exact b1)
  refine fIxS_to (by decide +kernel) ec ?_
  refine s_seq ?_
  walk_at "w"
  refine ⟨b, 7, rfl, B2, by decide, by decide, fun way S3 c0 c1 B3 sb3 => ?_⟩
  have sb : SB b S S3 := (sb1.trans sb2).trans sb3
  obtain ⟨at1, rfl⟩ : ∃ at1 : Nat, at_ = (at1 : Int) := ⟨at_.toNat, by omega⟩
  have lc1 := len_cut z none (some (at1 : Int))
  have lc2 := len_cut z (some (at1 : Int)) none
  have lc3 := len_cut z (some ((at1 : Int) + 1)) none
  have l1 := len_one c
  refine s_seq ?_
  walk_at "w"
  simp only [fEq, eqS]
  by_cases h0 : way = 0
  · simp only [h0, decide_true]
    refine fSlS_to (by omega) (fAddS_to (by omega) (fSlS_to (by omega) (fAddS_to (by rw [len_app]; omega) ?_)))
    exact Fin.here (k _ _ (by rw [len_app, len_app]; omega) B3 sb)
  simp only [h0, decide_false]
  refine s_seq ?_
  walk_at "w"
  simp only [fEq, eqS]
  by_cases h1 : way = 1
  · simp only [h1, decide_true]
    refine fSlS_to (by omega) (fAddS_to (by omega) (fSlS_to (by omega) (fAddS_to (by rw [len_app]; omega) ?_)))
    exact Fin.here (k _ _ (by rw [len_app, len_app]; omega) B3 sb)
  simp only [h1, decide_false]
  refine s_seq ?_
  walk_at "w"
  simp only [fEq, eqS]
  by_cases h2 : way = 2
  · simp only [h2, decide_true, fMulS]
    refine ⟨mul_ok hz, b, 4, rfl, B3, by decide, by decide, fun r4 S4 d0 d1 B4 sb4 => ?_⟩
    refine fSlS_to (mul_len hz) ?_
    obtain ⟨r5, e5⟩ : ∃ r5 : Nat, (7 : Int) + r4 = (r5 : Int) := ⟨(7 + r4).toNat, by omega⟩
    rw [e5]
    refine Fin.here (k _ _ ?_ B4 (sb.trans sb4))
    rw [← len_codes, cut_to, List.length_take]
    omega
  simp only [h2, decide_false]
  refine s_seq ?_
  walk_at "w"
  simp only [fEq, eqS]
  by_cases h3 : way = 3
  · simp only [h3, decide_true]
    have lu := len_upper z
    refine ⟨rfl, ⟨by omega, ?_⟩⟩
    have le1 : (" " : Str).length = 1 := by decide +kernel
    have le0 : ("" : Str).length = 0 := by decide +kernel
    refine fAddS_to (by rw [le1]; omega) (fAddS_to (by rw [le1]; omega) ?_)
    refine ⟨by decide, b, 4, rfl, B3, by decide, by decide, fun r4 S4 d0 d1 B4 sb4 => ?_⟩
    obtain ⟨d, ed, md⟩ := atD_mem (xs := [D.str "", .str (Txt.upper z), .str (z ++ " "), .str (" " ++ z)]) d0 (by simpa using d1)
    refine fIxL_to (by rfl) ed ?_
    simp only [List.mem_cons, List.not_mem_nil, or_false] at md
    rcases md with rfl | rfl | rfl | rfl
    · exact Fin.here (k _ _ (by rw [le0]; omega) B4 (sb.trans sb4))
    · exact Fin.here (k _ _ (by omega) B4 (sb.trans sb4))
    · exact Fin.here (k _ _ (by rw [len_app, le1]; omega) B4 (sb.trans sb4))
    · exact Fin.here (k _ _ (by rw [len_app, le1]; omega) B4 (sb.trans sb4))
  simp only [h3, decide_false]
  exact Fin.here (k z _ (by omega) B3 sb)
def pLaw : PSpec := fun ds S Q => ∃ ns : List Int, ds = [.lst (ns.map .int)] ∧ ns.length ≤ 63 ∧ ∀ S', Q (.bl true) S'
theorem scLaw : FnScope ["_law_script", "_law_box_here", "_law_turn", "_law_text", "_law_due", "_law_sign", "_law_some"] ["_law_script"] (defScope (top 10)) := ⟨rfl, rfl, rfl, by decide +kernel, rfl, by decide +kernel, by decide +kernel⟩
theorem ok_law (Fn : FnP K "law" (top 10) f fd) (T : Txt K mg) (Ct : Callee P w K mg base 1 "_law_take" ["_law_box_here", "_law_many"] pTake) (Cb : Callee P w K mg base 1 "_law_box" ["_law_script"] pBox) (Cs : Callee P w K mg base 2 "_law_same" ["_law_found", "_law_due"] (pSame 2))
    (Cn : Callee P w K mg base 2 "_law_names" ["_law_box_here", "_law_many"] pNames) (Ce : Callee P w K mg base 2 "_law_bent" ["_law_box_here", "_law_name"] pBent) (Ci : Callee P w K mg base 1 "is_name" ["text"] pIsName) : FnOk P w K mg base CX0 3 f fd ["_law_script"] (spP K pLaw) := by
  have sc := scLaw
  refine fn_pureD Fn scLaw (fun ds S Q h => by obtain ⟨ns, rfl, _⟩ := h; rfl) fun cdv A outer s H E hr => ⟨_, (dss_cons (ds_set (i := 1) sc.nd (de_f Cb (hr.mono (by first | exact Nat.le_refl _ | decide | omega)) (da_cons (de_v 0) da_nil)))
      (dss_cons (ds_for PassesOwn.never rfl (di_range1 T.range de_int) (dg_name (i := 2) sc.nd)
      (dss_cons (ds_set (i := 3) sc.nd (de_f Ce (hr.mono (by first | exact Nat.le_refl _ | decide | omega)) (da_cons (de_v 1) (da_cons (de_ixL (de_f Cn (hr.mono (by first | exact Nat.le_refl _ | decide | omega)) (da_cons (de_v 1) (da_cons de_int da_nil))) (de_f Ct (hr.mono (by first | exact Nat.le_refl _ | decide | omega)) (da_cons (de_v 1) (da_cons de_int da_nil)))) da_nil))))
      (dss_cons (ds_set (i := 4) sc.nd (de_and (de_chain op_le op_le sr_le sr_le de_int (de_lenS T.len (de_v 3)) de_int) (de_one (de_all rfl T.all (de_lc (own := [("_law_sign", 5)]) rfl sc.nd (di_str (de_v 3)) (blkOk_by (N := ["_law_script", "_law_box_here", "_law_turn", "_law_text", "_law_due", "_law_sign", "_law_some"]) (sc := defScope (top 10)) (by decide +kernel)) (fun _ _ _ _ _ => (dg_name (i := 5) sc.nd)) (fun _ _ _ _ _ => dts_nil) (fun _ _ _ _ _ => (de_inS (de_v 5) de_str)))))))
      (dss_one (ds_if (dt_not (dt_val (de_f Cs (hr.mono (by first | exact Nat.le_refl _ | decide | omega)) (da_cons (de_f Ci (hr.mono (by first | exact Nat.le_refl _ | decide | omega)) (da_cons (de_v 3) da_nil)) (da_cons (de_v 4) da_nil)))))
      (dss_one (ds_ret de_bl))
      dss_nil)))))
      (dss_cons (ds_setLc (i := 6) (own := [("_law_text", 3)]) rfl sc.nd (di_list (de_lst (da_cons de_str (da_cons de_str (da_cons de_str (da_cons de_str (da_cons de_str (da_cons de_str (da_cons de_str da_nil))))))))) (blkOk_by (N := ["_law_script", "_law_box_here", "_law_turn", "_law_text", "_law_due", "_law_sign", "_law_some"]) (sc := defScope (top 10)) (by decide +kernel)) (fun _ _ _ _ _ => (dg_name (i := 3) sc.nd)) (fun _ _ _ _ _ => dts_nil) (fun _ _ _ _ _ => (de_f Ci (hr.mono (by first | exact Nat.le_refl _ | decide | omega)) (da_cons (de_v 3) da_nil))) (sw_true rfl rfl rfl (by decide +kernel)))
      (dss_one (ds_ret (de_f Cs (hr.mono (by first | exact Nat.le_refl _ | decide | omega)) (da_cons (de_v 6) (da_cons (de_lst (da_cons de_bl (da_cons de_bl (da_cons de_bl (da_cons de_bl (da_cons de_bl (da_cons de_bl (da_cons de_bl da_nil)))))))) da_nil)))))))), ?_⟩
  rintro ds S Q ⟨ns, rfl, hns, k⟩
  have h100 := sizeLine_big
  refine s_seq ?_
  walk_at "w"
  refine ⟨ns, rfl, hns, fun b S1 _ B1 sb1 => ?_⟩
  refine s_seq ?_
  walk_at "w"
  refine ⟨⟨by decide, by decide⟩, ?_⟩
  refine for_go (fun i env S' => Box S' b ∧ ∃ o2 o3 o4 : Option D, env = [some (.lst (ns.map .int)), some (.cel b), o2, o3, o4, none, none]) ⟨B1, none, none, none, rfl⟩ ?_ ?_
  · rintro i x env S' hx ⟨B, o2, o3, o4, rfl⟩
    walk_at "w"
    refine s_seq ?_
    walk_at "w"
    refine ⟨b, 3, rfl, B, by decide, by decide, fun ys S2 ly ny B2 sb2 => ?_⟩
    refine ⟨b, 3, rfl, B2, by decide, by decide, fun r S3 r0 r1 B3 sb3 => ?_⟩
    obtain ⟨d, ed, md⟩ := atD_mem (xs := ys.map D.str) r0 (by rw [List.length_map, ly]; exact r1)
    refine fIxL_to (by rfl) ed ?_
    obtain ⟨z, hz, rfl⟩ := List.mem_map.mp md
    refine ⟨b, z, rfl, B3, by have := isName_len (ny z hz); omega, fun t S4 lt B4 sb4 => ?_⟩
    refine s_seq ?_
    refine isname_w (i := 3) (j := 5) rfl (by decide) (by simp) (by omega) ?_
    walk_at "w"
    refine ⟨t, rfl, by omega, ?_⟩
    refine ⟨.bl (isName t), .bl (isName t), rfl, .sc rfl rfl, ?_⟩
    have e : sameD (.bl (isName t)) (.bl (isName t)) = true := decide_eq_true rfl
    rw [e]
    exact ⟨B4, _, _, _, rfl⟩
  · rintro i env S' hx ⟨B, o2, o3, o4, rfl⟩
    refine s_seq ?_
    walk_at "w"
    refine ⟨by decide, ?_⟩
    have e : ([D.str "", .str "a", .str "abcdefgh", .str "abcdefghi", .str "aB", .str "a b", .str "z"] : List D) = (["", "a", "abcdefgh", "abcdefghi", "aB", "a b", "z"] : List Str).map D.str := rfl
    rw [e]
    refine lc_map (fun z => D.bl (isName z)) (by decide) (fun z hz R r => ?_) ?_
    · walk_at "w"
      refine ⟨z, rfl, ?_, r⟩
      simp only [List.mem_cons, List.not_mem_nil, or_false] at hz
      rcases hz with rfl | rfl | rfl | rfl | rfl | rfl | rfl <;> decide +kernel
    · walk_at "w"
      refine ⟨by decide, ?_⟩
      refine ⟨_, _, rfl, .lst (by decide) ?_, ?_⟩
      · intro j x y hx hy
        have h1 := List.mem_of_getElem? hx
        have h2 := List.mem_of_getElem? hy
        simp only [List.mem_cons, List.not_mem_nil, or_false] at h1 h2
        refine .sc ?_ ?_
        · rcases h1 with rfl | rfl | rfl | rfl | rfl | rfl | rfl <;> rfl
        · rcases h2 with rfl | rfl | rfl | rfl | rfl | rfl | rfl <;> rfl
      · have e0 : isName "" = false := by decide +kernel
        have e1 : isName "a" = true := by decide +kernel
        have e2 : isName "abcdefgh" = true := by decide +kernel
        have e3 : isName "abcdefghi" = false := by decide +kernel
        have e4 : isName "aB" = false := by decide +kernel
        have e5 : isName "a b" = false := by decide +kernel
        have e6 : isName "z" = true := by decide +kernel
        rw [e0, e1, e2, e3, e4, e5, e6]
        have e7 : sameD (.lst [D.bl false, .bl true, .bl true, .bl false, .bl false, .bl false, .bl true]) (.lst [D.bl false, .bl true, .bl true, .bl false, .bl false, .bl false, .bl true]) = true := by decide +kernel
        rw [e7]
        exact Fin.here (k _)
end
end K01

set_option Elab.async false
set_option linter.all false
set_option maxRecDepth 100000
set_option maxHeartbeats 0
namespace K01
open PySem PySem.Spec PyProof.Rows L2 Pz
def dd (x : Str) (st : Stmt) : He.DefD := ⟨(x, none), x, x, defArgs st, defBody st, defScope st, [], []⟩
def fn : List He.DefD := [dd "is_name" (top 3), dd "_law_box" (top 5), dd "_law_take" (top 6), dd "_law_same" (top 7), dd "_law_names" (top 8), dd "_law_bent" (top 9), dd "law" (top 10)]
def fa : List He.Fa := [.glo "is_name", .glo "_law_box", .glo "_law_take", .glo "_law_same", .glo "_law_names", .glo "_law_bent", .glo "law", .free "len", .free "all", .free "range", .free "list", .free "tuple", .free "isinstance", .free "bool", .free "int", .free "str", .str "LETTERS" "abcdefghijklmnopqrstuvwxyz", .int "MOST_SIGNS" 8]
abbrev R : PySem.W.OpenRow := PySem.W.OpenLaw.row PySem.Challenge.rw_tipmeet_k01_names_judged
abbrev hk : PySem.W.Hook := He.hookD 4 fa fn
def ob (s : PySem.W.SharedT) : He.AlD := He.obsDG 4 fa fn (HandSHeadRun.getT s)
theorem ob_eq (s : PySem.W.SharedT) : ob s = hk.obs s.abs := He.obsDG_eq (HandSHeadRun.getT_eq s)
def loose : List Str := ["__name__", "LETTERS", "MOST_SIGNS", "is_name", "_law_box", "_law_take", "_law_same", "_law_names", "_law_bent"]
theorem run (w : World) : HandSHeadRun.RunEq R (PySem.W.view R.prog [10]) hk ob 2000 loose w := by
  intro os
  kernel_rfl
theorem facts {P : Program} {w : World} {K : PySem.W.Frag} {h : Heap} {mg : Str → Option Value} {f : Addr} (X : K.In h) (G : h.Ns mainGlobals mg) (hfa : mg ("law" : Str) = some (.ref f)) (c : He.SaysD fa fn K) :
    ∃ fd : FuncData, (∀ (s : Shared) (v : Value), BindsTo s fd ⟨[v], []⟩ [("_law_script", v)]) ∧ ∀ base : Heap, K.In base → base.Ns mainGlobals mg → FnOk P w K mg base CX0 3 f fd ["_law_script"] (spP K pLaw) := by
  obtain ⟨fd0, F0⟩ := c.def_ 0 (d := dd "is_name" (top 3)) rfl
  obtain ⟨fd1, F1⟩ := c.def_ 1 (d := dd "_law_box" (top 5)) rfl
  obtain ⟨fd2, F2⟩ := c.def_ 2 (d := dd "_law_take" (top 6)) rfl
  obtain ⟨fd3, F3⟩ := c.def_ 3 (d := dd "_law_same" (top 7)) rfl
  obtain ⟨fd4, F4⟩ := c.def_ 4 (d := dd "_law_names" (top 8)) rfl
  obtain ⟨fd5, F5⟩ := c.def_ 5 (d := dd "_law_bent" (top 9)) rfl
  obtain ⟨fd6, F6⟩ := c.def_ 6 (d := dd "law" (top 10)) rfl
  have g0 := He.glo_ok X G (c.fact 0 (f := .glo "is_name") rfl)
  have g1 := He.glo_ok X G (c.fact 1 (f := .glo "_law_box") rfl)
  have g2 := He.glo_ok X G (c.fact 2 (f := .glo "_law_take") rfl)
  have g3 := He.glo_ok X G (c.fact 3 (f := .glo "_law_same") rfl)
  have g4 := He.glo_ok X G (c.fact 4 (f := .glo "_law_names") rfl)
  have g5 := He.glo_ok X G (c.fact 5 (f := .glo "_law_bent") rfl)
  have e := hfa.symm.trans (He.glo_ok X G (c.fact 6 (f := .glo "law") rfl))
  cases e
  have T : Txt K mg := ⟨He.free_ok X G (c.fact 7 (f := .free "len") rfl), He.free_ok X G (c.fact 8 (f := .free "all") rfl), He.free_ok X G (c.fact 9 (f := .free "range") rfl), He.free_ok X G (c.fact 10 (f := .free "list") rfl), He.free_ok X G (c.fact 11 (f := .free "tuple") rfl), He.free_ok X G (c.fact 12 (f := .free "isinstance") rfl),
    He.free_ok X G (c.fact 13 (f := .free "bool") rfl), He.free_ok X G (c.fact 14 (f := .free "int") rfl), He.free_ok X G (c.fact 15 (f := .free "str") rfl), He.str_ok X G (c.fact 16 (f := .str "LETTERS" "abcdefghijklmnopqrstuvwxyz") rfl), He.int_ok X G (c.fact 17 (f := .int "MOST_SIGNS" 8) rfl)⟩
  have b0 : L2.Binds K fd0 ["text"] [] := F0.bindsN fun _ _ _ _ _ _ us hl => match us, hl with | [_], _ => rfl
  have b1 : L2.Binds K fd1 ["_law_script"] [] := F1.bindsN fun _ _ _ _ _ _ us hl => match us, hl with | [_], _ => rfl
  have b2 : L2.Binds K fd2 ["_law_box_here", "_law_many"] [] := F2.bindsN fun _ _ _ _ _ _ us hl => match us, hl with | [_, _], _ => rfl
  have b3 : L2.Binds K fd3 ["_law_found", "_law_due"] [] := F3.bindsN fun _ _ _ _ _ _ us hl => match us, hl with | [_, _], _ => rfl
  have b4 : L2.Binds K fd4 ["_law_box_here", "_law_many"] [] := F4.bindsN fun _ _ _ _ _ _ us hl => match us, hl with | [_, _], _ => rfl
  have b5 : L2.Binds K fd5 ["_law_box_here", "_law_name"] [] := F5.bindsN fun _ _ _ _ _ _ us hl => match us, hl with | [_, _], _ => rfl
  have b := FunD.bindsA (ps := ["_law_script"]) F6 fun _ _ _ _ _ _ us hl => match us, hl with | [_], _ => rfl
  refine ⟨fd6, fun s v => b s [v] rfl, fun base _ _ => ?_⟩
  have Ct : Callee P w K mg base 1 "_law_take" ["_law_box_here", "_law_many"] pTake := ⟨_, _, ok_take F2 T, g2, F2.kp, b2⟩
  exact ok_law F6 T Ct ⟨_, _, ok_box F1 T, g1, F1.kp, b1⟩ ⟨_, _, ok_same F3 T g3 b3 2, g3, F3.kp, b3⟩ ⟨_, _, ok_names F4 T Ct, g4, F4.kp, b4⟩ ⟨_, _, ok_bent F5 T Ct, g5, F5.kp, b5⟩ ⟨_, _, ok_isname F0 T, g0, F0.kp, b0⟩
theorem law_sp {K : PySem.W.Frag} {H : Hp} {a : Addr} {ns : List Int} (hl : ns.length ≤ 63) (hS : SqL K H a (ns.map V.int)) : spP K pLaw [.ref a] H (fun v _ => v = .bl true) fun _ _ _ => False := by
  refine ⟨fun _ => False, fun _ => none, [.lst (ns.map .int)], fun d _ => d = .bl true, ⟨fun a c e => (by cases e), fun a h => h.elim⟩, ⟨_, _, rfl, ⟨a, _, rfl, ?_, RepDs.scal D.int V.int (fun _ => rfl) ns⟩, rfl⟩, ⟨ns, rfl, hl, fun _ => rfl⟩, ?_⟩
  · rcases hS with h | h
    · exact .inl ⟨rfl, fun z => z, h⟩
    · exact .inr h
  · rintro v H' d S' _ _ r rfl
    exact r
end K01
open PySem PySem.W PySem.Calls PyProof.Rows
theorem PySem.Challenge.cw_tipmeet_k01_names_judged_holds : PySem.Challenge.rw_tipmeet_k01_names_judged.Holds := by
  w_on; o_law
  refine HandSHeadRun.head_any (r := OpenLaw.row PySem.Challenge.rw_tipmeet_k01_names_judged) (q := view (OpenLaw.row PySem.Challenge.rw_tipmeet_k01_names_judged).prog [10]) (H := K01.hk) (ob := K01.ob) (M := 2000) (loose := K01.loose) (d := HandSHeadRun.topDef (OpenLaw.row PySem.Challenge.rw_tipmeet_k01_names_judged).prog 10) (kwd := []) K01.ob_eq
    (by kernel_rfl) (fun s => by kernel_rfl) K01.run (by kernel_rfl) (by kernel_rfl) (by kernel_rfl) (by rfl) (by first | assumption | decide +kernel) (by decide +kernel) ⟨rfl, rfl, rfl, rfl, rfl, by decide +kernel⟩ ?hw ?hc
  case hw => w_witness2
  case hc =>
    refine L2.walk_ofE (l := PySem.Challenge.rw_tipmeet_k01_names_judged) (n := 63) (k := 3) (x := "_law_script") (CX := L2.CX0) rfl (by decide) (by kernel_rfl) ⟨rfl, by decide, by decide⟩ ?F (fun _ _ _ _ z => z)
    intro w mg fa h Y G hmg0
    obtain ⟨K, KX, c⟩ := Y
    have hmg : mg ("law" : PySem.Str) = some (.ref fa) := by
      have e : (HandSHeadRun.topDef (OpenLaw.row PySem.Challenge.rw_tipmeet_k01_names_judged).prog 10).name = ("law" : PySem.Str) := by kernel_rfl
      rw [← e]
      exact hmg0
    obtain ⟨fd, hb, hF⟩ := K01.facts (P := (PySem.Challenge.rw_tipmeet_k01_names_judged).prog) (w := w) KX G hmg c
    exact ⟨K, fd, Pz.spP K K01.pLaw, KX, hb, fun H a ns hl _ hS => K01.law_sp hl hS, hF⟩
