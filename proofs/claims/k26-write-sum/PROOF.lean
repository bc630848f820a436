import PyProof.Rows.All
import HandS.CallSlots
import HandS.Codes
import HandS.Defaults
import HandS.EndBits
import HandS.ForExc
import HandS.ForMost
import HandS.HeadHook3
import HandS.IsInst
import HandS.More
import HandS.Property
import HandS.StrMore
import HandS.Style
import HandS.TupAny
import HandS.Wide
import HandS.Zip
import OpenK.AllK
import Wide.All
import Wide.FinOn
import PySem.Challenge.RW_wordworth_k26_write_sum
set_option Elab.async false
set_option linter.all false
noncomputable section
set_option maxRecDepth 100000
set_option maxHeartbeats 2000000
/-! ## DL: data trees over the hand layer -/
namespace DL
open PySem PySem.Spec PyProof.Rows L2

inductive D where
  | non | bl (b : Bool) | int (i : Int) | str (x : Str)
  | lst (xs : List D) | tup (xs : List D) | ins (c : Nat) (fs : List D)
  | scr (ns : List Int)

/-- the written part, the classes by number, their attributes' names in order -/
structure Gam where
  K : PySem.W.Frag
  cl : Nat → Addr
  nm : Nat → List Str

mutual
def Rep (G : Gam) (F : Hp) : D → V → Prop
  | .non, v => v = .non
  | .bl b, v => v = .bl b
  | .int i, v => v = .int i
  | .str x, v => v = .str x
  | .lst xs, v => ∃ a vs, v = .ref a ∧ F a = some (.lst vs) ∧ vs.length ≤ sizeLine ∧ RepL G F xs vs
  | .tup xs, v => ∃ a vs, v = .ref a ∧ F a = some (.tup vs) ∧ vs.length ≤ sizeLine ∧ RepL G F xs vs
  | .ins c fs, v => ∃ a dx vs, v = .ref a ∧ F a = some (.ins (G.cl c) dx ((G.nm c).zip vs)) ∧ vs.length ≤ (G.nm c).length ∧ RepL G F fs vs
  | .scr ns, v => ∃ a, v = .ref a ∧ SqL G.K F a (ns.map V.int) ∧ ns.length ≤ sizeLine
def RepL (G : Gam) (F : Hp) : List D → List V → Prop
  | [], vs => vs = []
  | d :: ds, vs => ∃ v vr, vs = v :: vr ∧ Rep G F d v ∧ RepL G F ds vr
end
mutual
/-- d at v; the lists and instances of the upper k levels stand at the addresses l, and nowhere in F -/
def Own (G : Gam) (F H : Hp) : D → Nat → V → List Addr → Prop
  | .lst xs, k, v, l => (k = 0 ∧ Rep G F (.lst xs) v ∧ l = []) ∨
      ∃ k' a vs l', k = k' + 1 ∧ v = .ref a ∧ H a = some (.lst vs) ∧ vs.length ≤ sizeLine ∧ OwnL G F H xs k' vs l' ∧ l = a :: l'
  | .ins c fs, k, v, l => (k = 0 ∧ Rep G F (.ins c fs) v ∧ l = []) ∨
      ∃ k' a dx vs l', k = k' + 1 ∧ v = .ref a ∧ H a = some (.ins (G.cl c) dx ((G.nm c).zip vs)) ∧ vs.length ≤ (G.nm c).length ∧ OwnL G F H fs k' vs l' ∧ l = a :: l'
  | d, _, v, l => Rep G F d v ∧ l = []
def OwnL (G : Gam) (F H : Hp) : List D → Nat → List V → List Addr → Prop
  | [], _, vs, l => vs = [] ∧ l = []
  | d :: ds, k, vs, l => ∃ v vr l1 l2, vs = v :: vr ∧ Own G F H d k v l1 ∧ OwnL G F H ds k vr l2 ∧ l = l1 ++ l2
end

def Le (F F' : Hp) : Prop := ∀ a o, F a = some o → F' a = some o
theorem Le.refl (F : Hp) : Le F F := fun _ _ h => h
theorem Le.trans {F F1 F2 : Hp} (a : Le F F1) (b : Le F1 F2) : Le F F2 := fun x o h => b x o (a x o h)
theorem Le.sql {K : PySem.W.Frag} {F F' : Hp} {a : Addr} {xs : List V} (e : Le F F') (h : SqL K F a xs) : SqL K F' a xs := by
  rcases h with (h | ⟨o, h⟩) | h
  · exact .inl (.inl (e _ _ h))
  · exact .inl (.inr ⟨o, e _ _ h⟩)
  · exact .inr h

mutual
theorem Rep.mono {G : Gam} {F F' : Hp} (e : Le F F') : ∀ (d : D) {v : V}, Rep G F d v → Rep G F' d v
  | .non, _, h => by unfold Rep at *; exact h
  | .bl _, _, h => by unfold Rep at *; exact h
  | .int _, _, h => by unfold Rep at *; exact h
  | .str _, _, h => by unfold Rep at *; exact h
  | .lst xs, _, h => by
    unfold Rep at *
    obtain ⟨a, vs, r, q, z, w⟩ := h
    exact ⟨a, vs, r, e _ _ q, z, RepL.mono e xs w⟩
  | .tup xs, _, h => by
    unfold Rep at *
    obtain ⟨a, vs, r, q, z, w⟩ := h
    exact ⟨a, vs, r, e _ _ q, z, RepL.mono e xs w⟩
  | .ins c fs, _, h => by
    unfold Rep at *
    obtain ⟨a, dx, vs, r, q, z, w⟩ := h
    exact ⟨a, dx, vs, r, e _ _ q, z, RepL.mono e fs w⟩
  | .scr ns, _, h => by
    unfold Rep at *
    obtain ⟨a, r, q, z⟩ := h
    exact ⟨a, r, e.sql q, z⟩
theorem RepL.mono {G : Gam} {F F' : Hp} (e : Le F F') : ∀ (ds : List D) {vs : List V}, RepL G F ds vs → RepL G F' ds vs
  | [], _, h => by unfold RepL at *; exact h
  | d :: ds, _, h => by
    unfold RepL at *
    obtain ⟨v, vr, r, q, w⟩ := h
    exact ⟨v, vr, r, Rep.mono e d q, RepL.mono e ds w⟩
end
mutual
/-- what is owned leans on F and on the objects at l alone -/
theorem Own.mono {G : Gam} {F F' H H' : Hp} (e : Le F F') : ∀ (d : D) {k : Nat} {v : V} {l : List Addr}, (∀ a ∈ l, ∀ o, H a = some o → H' a = some o) → Own G F H d k v l → Own G F' H' d k v l
  | .non, _, _, _, _, h => by unfold Own at *; exact ⟨Rep.mono e _ h.1, h.2⟩
  | .bl _, _, _, _, _, h => by unfold Own at *; exact ⟨Rep.mono e _ h.1, h.2⟩
  | .int _, _, _, _, _, h => by unfold Own at *; exact ⟨Rep.mono e _ h.1, h.2⟩
  | .str _, _, _, _, _, h => by unfold Own at *; exact ⟨Rep.mono e _ h.1, h.2⟩
  | .tup _, _, _, _, _, h => by unfold Own at *; exact ⟨Rep.mono e _ h.1, h.2⟩
  | .scr _, _, _, _, _, h => by unfold Own at *; exact ⟨Rep.mono e _ h.1, h.2⟩
  | .lst xs, _, _, _, s, h => by
    unfold Own at *
    rcases h with ⟨h1, h2, h3⟩ | ⟨k', a, vs, l', h1, h2, h3, h4, h5, h6⟩
    · exact .inl ⟨h1, Rep.mono e _ h2, h3⟩
    · subst h6
      exact .inr ⟨k', a, vs, l', h1, h2, s a List.mem_cons_self _ h3, h4, OwnL.mono e xs (fun b hb => s b (List.mem_cons_of_mem _ hb)) h5, rfl⟩
  | .ins c fs, _, _, _, s, h => by
    unfold Own at *
    rcases h with ⟨h1, h2, h3⟩ | ⟨k', a, dx, vs, l', h1, h2, h3, h4, h5, h6⟩
    · exact .inl ⟨h1, Rep.mono e _ h2, h3⟩
    · subst h6
      exact .inr ⟨k', a, dx, vs, l', h1, h2, s a List.mem_cons_self _ h3, h4, OwnL.mono e fs (fun b hb => s b (List.mem_cons_of_mem _ hb)) h5, rfl⟩
theorem OwnL.mono {G : Gam} {F F' H H' : Hp} (e : Le F F') : ∀ (ds : List D) {k : Nat} {vs : List V} {l : List Addr}, (∀ a ∈ l, ∀ o, H a = some o → H' a = some o) → OwnL G F H ds k vs l → OwnL G F' H' ds k vs l
  | [], _, _, _, _, h => by unfold OwnL at *; exact h
  | d :: ds, _, _, _, s, h => by
    unfold OwnL at *
    obtain ⟨v, vr, l1, l2, h1, h2, h3, h4⟩ := h
    subst h4
    exact ⟨v, vr, l1, l2, h1, Own.mono e d (fun b hb => s b (List.mem_append_left _ hb)) h2, OwnL.mono e ds (fun b hb => s b (List.mem_append_right _ hb)) h3, rfl⟩
end
theorem Own.zero {G : Gam} {F H : Hp} : ∀ {d : D} {v : V} {l : List Addr}, Own G F H d 0 v l ↔ Rep G F d v ∧ l = []
  | .non, _, _ => by unfold Own; exact Iff.rfl
  | .bl _, _, _ => by unfold Own; exact Iff.rfl
  | .int _, _, _ => by unfold Own; exact Iff.rfl
  | .str _, _, _ => by unfold Own; exact Iff.rfl
  | .tup _, _, _ => by unfold Own; exact Iff.rfl
  | .scr _, _, _ => by unfold Own; exact Iff.rfl
  | .lst xs, _, _ => by
    unfold Own
    constructor
    · rintro (⟨_, h⟩ | ⟨_, _, _, _, h, _⟩)
      · exact h
      · exact absurd h (by omega)
    · exact fun h => .inl ⟨rfl, h⟩
  | .ins c fs, _, _ => by
    unfold Own
    constructor
    · rintro (⟨_, h⟩ | ⟨_, _, _, _, _, h, _⟩)
      · exact h
      · exact absurd h (by omega)
    · exact fun h => .inl ⟨rfl, h⟩
mutual
/-- freezing: the owned objects go into F -/
theorem Own.freeze {G : Gam} {F F' H : Hp} (e : Le F F') : ∀ (d : D) {k : Nat} {v : V} {l : List Addr}, (∀ a ∈ l, F' a = H a) → Own G F H d k v l → Rep G F' d v
  | .non, _, _, _, _, h => by unfold Own at h; exact Rep.mono e _ h.1
  | .bl _, _, _, _, _, h => by unfold Own at h; exact Rep.mono e _ h.1
  | .int _, _, _, _, _, h => by unfold Own at h; exact Rep.mono e _ h.1
  | .str _, _, _, _, _, h => by unfold Own at h; exact Rep.mono e _ h.1
  | .tup _, _, _, _, _, h => by unfold Own at h; exact Rep.mono e _ h.1
  | .scr _, _, _, _, _, h => by unfold Own at h; exact Rep.mono e _ h.1
  | .lst xs, _, _, _, s, h => by
    unfold Own at h
    rcases h with ⟨h1, h2, h3⟩ | ⟨k', a, vs, l', h1, h2, h3, h4, h5, h6⟩
    · exact Rep.mono e _ h2
    · subst h6
      unfold Rep
      exact ⟨a, vs, h2, (s a List.mem_cons_self).trans h3, h4, OwnL.freeze e xs (fun b hb => s b (List.mem_cons_of_mem _ hb)) h5⟩
  | .ins c fs, _, _, _, s, h => by
    unfold Own at h
    rcases h with ⟨h1, h2, h3⟩ | ⟨k', a, dx, vs, l', h1, h2, h3, h4, h5, h6⟩
    · exact Rep.mono e _ h2
    · subst h6
      unfold Rep
      exact ⟨a, dx, vs, h2, (s a List.mem_cons_self).trans h3, h4, OwnL.freeze e fs (fun b hb => s b (List.mem_cons_of_mem _ hb)) h5⟩
theorem OwnL.freeze {G : Gam} {F F' H : Hp} (e : Le F F') : ∀ (ds : List D) {k : Nat} {vs : List V} {l : List Addr}, (∀ a ∈ l, F' a = H a) → OwnL G F H ds k vs l → RepL G F' ds vs
  | [], _, _, _, _, h => by unfold OwnL at h; unfold RepL; exact h.1
  | d :: ds, _, _, _, s, h => by
    unfold OwnL at h
    obtain ⟨v, vr, l1, l2, h1, h2, h3, h4⟩ := h
    subst h4
    unfold RepL
    exact ⟨v, vr, h1, Own.freeze e d (fun b hb => s b (List.mem_append_left _ hb)) h2, OwnL.freeze e ds (fun b hb => s b (List.mem_append_right _ hb)) h3⟩
end
theorem OwnL.zero {G : Gam} {F H : Hp} : ∀ {ds : List D} {vs : List V} {l : List Addr}, OwnL G F H ds 0 vs l ↔ RepL G F ds vs ∧ l = []
  | [], _, _ => by unfold OwnL RepL; exact Iff.rfl
  | d :: ds, _, _ => by
    unfold OwnL RepL
    constructor
    · rintro ⟨v, vr, l1, l2, h1, h2, h3, h4⟩
      rw [Own.zero] at h2
      rw [OwnL.zero] at h3
      obtain ⟨h2, rfl⟩ := h2
      obtain ⟨h3, rfl⟩ := h3
      exact ⟨⟨v, vr, h1, h2, h3⟩, h4⟩
    · rintro ⟨⟨v, vr, h1, h2, h3⟩, h4⟩
      exact ⟨v, vr, [], [], h1, Own.zero.mpr ⟨h2, rfl⟩, OwnL.zero.mpr ⟨h3, rfl⟩, h4⟩
mutual
/-- the owned objects stand in H -/
theorem Own.there {G : Gam} {F H : Hp} : ∀ (d : D) {k : Nat} {v : V} {l : List Addr}, Own G F H d k v l → ∀ a ∈ l, ∃ o, H a = some o
  | .non, _, _, _, h => by unfold Own at h; rw [h.2]; intro a ha; cases ha
  | .bl _, _, _, _, h => by unfold Own at h; rw [h.2]; intro a ha; cases ha
  | .int _, _, _, _, h => by unfold Own at h; rw [h.2]; intro a ha; cases ha
  | .str _, _, _, _, h => by unfold Own at h; rw [h.2]; intro a ha; cases ha
  | .tup _, _, _, _, h => by unfold Own at h; rw [h.2]; intro a ha; cases ha
  | .scr _, _, _, _, h => by unfold Own at h; rw [h.2]; intro a ha; cases ha
  | .lst xs, _, _, _, h => by
    unfold Own at h
    rcases h with ⟨h1, h2, h3⟩ | ⟨k', a, vs, l', h1, h2, h3, h4, h5, h6⟩
    · rw [h3]; intro a ha; cases ha
    · subst h6
      intro b hb
      rcases List.mem_cons.mp hb with rfl | hb
      · exact ⟨_, h3⟩
      · exact OwnL.there xs h5 b hb
  | .ins c fs, _, _, _, h => by
    unfold Own at h
    rcases h with ⟨h1, h2, h3⟩ | ⟨k', a, dx, vs, l', h1, h2, h3, h4, h5, h6⟩
    · rw [h3]; intro a ha; cases ha
    · subst h6
      intro b hb
      rcases List.mem_cons.mp hb with rfl | hb
      · exact ⟨_, h3⟩
      · exact OwnL.there fs h5 b hb
theorem OwnL.there {G : Gam} {F H : Hp} : ∀ (ds : List D) {k : Nat} {vs : List V} {l : List Addr}, OwnL G F H ds k vs l → ∀ a ∈ l, ∃ o, H a = some o
  | [], _, _, _, h => by unfold OwnL at h; rw [h.2]; intro a ha; cases ha
  | d :: ds, _, _, _, h => by
    unfold OwnL at h
    obtain ⟨v, vr, l1, l2, h1, h2, h3, h4⟩ := h
    subst h4
    intro b hb
    rcases List.mem_append.mp hb with hb | hb
    · exact Own.there d h2 b hb
    · exact OwnL.there ds h3 b hb
end
theorem RepL.length {G : Gam} {F : Hp} : ∀ {ds : List D} {vs : List V}, RepL G F ds vs → ds.length = vs.length
  | [], _, h => by unfold RepL at h; rw [h]; rfl
  | d :: ds, _, h => by
    unfold RepL at h
    obtain ⟨v, vr, h1, _, h3⟩ := h
    rw [h1, List.length_cons, List.length_cons, RepL.length h3]
theorem RepL.get {G : Gam} {F : Hp} : ∀ {ds : List D} {vs : List V} {i : Nat} {v : V}, RepL G F ds vs → vs[i]? = some v → ∃ d, ds[i]? = some d ∧ Rep G F d v
  | [], _, i, v, h, e => by unfold RepL at h; rw [h] at e; simp at e
  | d :: ds, _, 0, v, h, e => by
    unfold RepL at h
    obtain ⟨w, vr, h1, h2, h3⟩ := h
    rw [h1] at e
    simp at e
    exact ⟨d, rfl, e ▸ h2⟩
  | d :: ds, _, i + 1, v, h, e => by
    unfold RepL at h
    obtain ⟨w, vr, h1, h2, h3⟩ := h
    rw [h1] at e
    obtain ⟨d', e', r⟩ := RepL.get (i := i) h3 (by simpa using e)
    exact ⟨d', by simpa using e', r⟩
theorem RepL.get' {G : Gam} {F : Hp} {ds : List D} {vs : List V} {i : Nat} {d : D} (h : RepL G F ds vs) (e : ds[i]? = some d) : ∃ v, vs[i]? = some v ∧ Rep G F d v := by
  have hi : i < vs.length := by rw [← h.length]; exact (List.getElem?_eq_some_iff.mp e).1
  obtain ⟨d', e', r⟩ := RepL.get h (List.getElem?_eq_getElem hi)
  rw [e] at e'
  cases e'
  exact ⟨_, List.getElem?_eq_getElem hi, r⟩
theorem RepL.append {G : Gam} {F : Hp} : ∀ {ds es : List D} {vs us : List V}, RepL G F ds vs → RepL G F es us → RepL G F (ds ++ es) (vs ++ us)
  | [], es, _, us, h, k => by unfold RepL at h; rw [h]; exact k
  | d :: ds, es, _, us, h, k => by
    unfold RepL at h
    obtain ⟨w, vr, h1, h2, h3⟩ := h
    rw [h1]
    show RepL G F (d :: (ds ++ es)) (w :: (vr ++ us))
    unfold RepL
    exact ⟨w, vr ++ us, rfl, h2, RepL.append h3 k⟩
theorem RepL.one {G : Gam} {F : Hp} {d : D} {v : V} (h : Rep G F d v) : RepL G F [d] [v] := by
  unfold RepL
  exact ⟨v, [], rfl, h, by unfold RepL; rfl⟩
theorem RepL.nil {G : Gam} {F : Hp} : RepL G F [] [] := by unfold RepL; rfl
theorem RepL.cons {G : Gam} {F : Hp} {d : D} {v : V} {ds : List D} {vs : List V} (h : Rep G F d v) (k : RepL G F ds vs) : RepL G F (d :: ds) (v :: vs) := by
  unfold RepL
  exact ⟨v, vs, rfl, h, k⟩
theorem RepL.drop {G : Gam} {F : Hp} : ∀ (n : Nat) {ds : List D} {vs : List V}, RepL G F ds vs → RepL G F (ds.drop n) (vs.drop n)
  | 0, _, _, h => h
  | n + 1, [], _, h => by unfold RepL at h; rw [h]; exact RepL.nil
  | n + 1, d :: ds, _, h => by
    unfold RepL at h
    obtain ⟨w, vr, h1, h2, h3⟩ := h
    rw [h1]
    exact RepL.drop n h3
theorem RepL.take {G : Gam} {F : Hp} : ∀ (n : Nat) {ds : List D} {vs : List V}, RepL G F ds vs → RepL G F (ds.take n) (vs.take n)
  | 0, _, _, h => RepL.nil
  | n + 1, [], _, h => by unfold RepL at h; rw [h]; exact RepL.nil
  | n + 1, d :: ds, _, h => by
    unfold RepL at h
    obtain ⟨w, vr, h1, h2, h3⟩ := h
    rw [h1]
    exact RepL.cons h2 (RepL.take n h3)
theorem RepL.set {G : Gam} {F : Hp} : ∀ {ds : List D} {vs : List V} (i : Nat) {d : D} {v : V}, RepL G F ds vs → Rep G F d v → RepL G F (ds.set i d) (vs.set i v)
  | [], _, i, d, v, h, _ => by unfold RepL at h; rw [h]; exact RepL.nil
  | d :: ds, _, 0, e, v, h, r => by
    unfold RepL at h
    obtain ⟨w, vr, h1, h2, h3⟩ := h
    rw [h1]
    exact RepL.cons r h3
  | d :: ds, _, i + 1, e, v, h, r => by
    unfold RepL at h
    obtain ⟨w, vr, h1, h2, h3⟩ := h
    rw [h1]
    exact RepL.cons h2 (RepL.set i h3 r)
theorem RepL.eraseIdx {G : Gam} {F : Hp} : ∀ {ds : List D} {vs : List V} (i : Nat), RepL G F ds vs → RepL G F (ds.eraseIdx i) (vs.eraseIdx i)
  | [], _, i, h => by unfold RepL at h; rw [h]; exact RepL.nil
  | d :: ds, _, 0, h => by
    unfold RepL at h
    obtain ⟨w, vr, h1, h2, h3⟩ := h
    rw [h1]
    exact h3
  | d :: ds, _, i + 1, h => by
    unfold RepL at h
    obtain ⟨w, vr, h1, h2, h3⟩ := h
    rw [h1]
    exact RepL.cons h2 (RepL.eraseIdx i h3)
theorem RepL.reverse {G : Gam} {F : Hp} : ∀ {ds : List D} {vs : List V}, RepL G F ds vs → RepL G F ds.reverse vs.reverse
  | [], _, h => by unfold RepL at h; rw [h]; exact RepL.nil
  | d :: ds, _, h => by
    unfold RepL at h
    obtain ⟨w, vr, h1, h2, h3⟩ := h
    rw [h1, List.reverse_cons, List.reverse_cons]
    exact (RepL.reverse h3).append (RepL.one h2)
theorem repL_ints {G : Gam} {F : Hp} : ∀ ns : List Int, RepL G F (ns.map D.int) (ns.map V.int)
  | [] => RepL.nil
  | n :: ns => RepL.cons (by unfold Rep; rfl) (repL_ints ns)

/-! ### slots -/
inductive Sl where
  | no | fro (d : D) | own (io : Bool) (k : Nat) (d : D)
abbrev Rho := List Sl
def SlotRep (G : Gam) (Pn : Nat → V) (F H : Hp) (i : Nat) : Option Sl → Option (Option V) → List Addr → Prop
  | some (.fro d), ov, l => (∃ v, ov = some (some v) ∧ Rep G F d v) ∧ l = []
  | some (.own io k d), ov, l => ∃ v, ov = some (some v) ∧ (io = true → v = Pn i) ∧ Own G F H d k v l
  | _, _, l => l = []
structure Sim (G : Gam) (Pn : Nat → V) (F : Hp) (ρ : Rho) (σ : L2.St) (H : Hp) (A : Nat → List Addr) : Prop where
  sub : Le F H
  len : ρ.length = σ.length
  sl : ∀ i, SlotRep G Pn F H i ρ[i]? σ[i]? (A i)
  nf : ∀ i a, a ∈ A i → F a = none
  nd : ∀ i, (A i).Nodup
  dj : ∀ i j a, a ∈ A i → a ∈ A j → i = j
structure Step (F H : Hp) (A : Nat → List Addr) (F' H' : Hp) (A' : Nat → List Addr) : Prop where
  le : Le F F'
  keep : ∀ a o, H a = some o → (∀ i, a ∉ A i) → H' a = some o
  fre : ∀ a o, F' a = some o → F a = some o ∨ (∃ i, a ∈ A i) ∨ H a = none
  own : ∀ i a, a ∈ A' i → (∃ j, a ∈ A j) ∨ H a = none
theorem Step.refl (F H : Hp) (A : Nat → List Addr) : Step F H A F H A := ⟨Le.refl F, fun _ _ h _ => h, fun _ _ h => .inl h, fun i _ h => .inl ⟨i, h⟩⟩
theorem Step.trans {F H F1 H1 F2 H2 : Hp} {A A1 A2 : Nat → List Addr} (a : Step F H A F1 H1 A1) (b : Step F1 H1 A1 F2 H2 A2) : Step F H A F2 H2 A2 where
  le := a.le.trans b.le
  keep := fun x o h n => b.keep x o (a.keep x o h n) fun i hi => by
    rcases a.own i x hi with ⟨j, z⟩ | z
    · exact n j z
    · rw [h] at z; cases z
  fre := fun x o h => by
    rcases b.fre x o h with z | ⟨i, z⟩ | z
    · exact a.fre x o z
    · exact .inr (a.own i x z)
    · cases q : H x with
      | none => exact .inr (.inr rfl)
      | some u =>
        refine .inr (.inl (Classical.byContradiction fun n => ?_))
        have := a.keep x u q fun i hi => n ⟨i, hi⟩
        rw [z] at this; cases this
  own := fun i x h => by
    rcases b.own i x h with ⟨j, z⟩ | z
    · exact a.own j x z
    · cases q : H x with
      | none => exact .inr rfl
      | some u =>
        refine .inl (Classical.byContradiction fun n => ?_)
        have := a.keep x u q fun i hi => n ⟨i, hi⟩
        rw [z] at this; cases this

/-! ### results -/
inductive R (α : Type) where
  | ok (a : α) | exc (c : Nat) (w : D) (ρ : Rho) | bad
def R.bind {α β : Type} (r : R α) (k : α → R β) : R β := match r with
  | .ok a => k a
  | .exc c w ρ => .exc c w ρ
  | .bad => .bad
inductive S where
  | nx (ρ : Rho) | rt (k : Nat) (d : D) (ρ : Rho) | bk (ρ : Rho) | ct (ρ : Rho) | exc (c : Nat) (w : D) (ρ : Rho) | bad
def R.thn {α : Type} (r : R α) (k : α → S) : S := match r with
  | .ok a => k a
  | .exc c w ρ => .exc c w ρ
  | .bad => .bad
def S.seq (s : S) (k : Rho → S) : S := match s with
  | .nx ρ => k ρ
  | .rt j d ρ => .rt j d ρ
  | .bk ρ => .bk ρ
  | .ct ρ => .ct ρ
  | .exc c w ρ => .exc c w ρ
  | .bad => .bad

/-- an exception that leaves, by the wish W -/
def ExcOk (G : Gam) (Pn : Nat → V) (W : WX) (F H : Hp) (A : Nat → List Addr) (c : Nat) (w : D) (ρ' : Rho) : Prop :=
  ∀ σ' dx v F' H' A', Step F H A F' H' A' → Sim G Pn F' ρ' σ' H' A' → H' dx = some (.xd [(("what" : Str), v)]) → Rep G F' w v → W (.ref (G.cl c)) (some dx) σ' H'
theorem ExcOk.step {G : Gam} {Pn : Nat → V} {W : WX} {F H F1 H1 : Hp} {A A1 : Nat → List Addr} {c : Nat} {w : D} {ρ' : Rho} (h : ExcOk G Pn W F H A c w ρ') (s : Step F H A F1 H1 A1) : ExcOk G Pn W F1 H1 A1 c w ρ' :=
  fun σ' dx v F' H' A' s' S x r => h σ' dx v F' H' A' (s.trans s') S x r

def TEok (G : Gam) (Pn : Nat → V) (W : WX) (t : TE) (f : Rho → R (D × Rho)) : Prop :=
  ∀ (F : Hp) (ρ : Rho) (σ : L2.St) (H : Hp) (A : Nat → List Addr) (Q : VK), Sim G Pn F ρ σ H A →
    (∀ d ρ', f ρ = .ok (d, ρ') → ∀ v F' H' A', Step F H A F' H' A' → Sim G Pn F' ρ' σ H' A' → Rep G F' d v → Q v H') →
    (∀ c w ρ', f ρ = .exc c w ρ' → ExcOk G Pn W F H A c w ρ') → f ρ ≠ .bad → t σ H Q
/-- an argument list -/
def TAok (G : Gam) (Pn : Nat → V) (W : WX) (t : TA) (f : Rho → R (List D × Rho)) : Prop :=
  ∀ (F : Hp) (ρ : Rho) (σ : L2.St) (H : Hp) (A : Nat → List Addr) (Q : List V → Hp → Prop), Sim G Pn F ρ σ H A →
    (∀ ds ρ', f ρ = .ok (ds, ρ') → ∀ vs F' H' A', Step F H A F' H' A' → Sim G Pn F' ρ' σ H' A' → RepL G F' ds vs → Q vs H') →
    (∀ c w ρ', f ρ = .exc c w ρ' → ExcOk G Pn W F H A c w ρ') → f ρ ≠ .bad → t σ H Q
/-- a test -/
def TTok (G : Gam) (Pn : Nat → V) (W : WX) (t : TT) (f : Rho → R (Bool × Rho)) : Prop :=
  ∀ (F : Hp) (ρ : Rho) (σ : L2.St) (H : Hp) (A : Nat → List Addr) (Q : Bool → Hp → Prop), Sim G Pn F ρ σ H A →
    (∀ b ρ', f ρ = .ok (b, ρ') → ∀ F' H' A', Step F H A F' H' A' → Sim G Pn F' ρ' σ H' A' → Q b H') →
    (∀ c w ρ', f ρ = .exc c w ρ' → ExcOk G Pn W F H A c w ρ') → f ρ ≠ .bad → t σ H Q
/-- a new thing, owned by nobody yet -/
structure Tmp (G : Gam) (F H : Hp) (A : Nat → List Addr) (k : Nat) (d : D) (v : V) (l : List Addr) : Prop where
  own : Own G F H d k v l
  nf : ∀ a ∈ l, F a = none
  na : ∀ a ∈ l, ∀ i, a ∉ A i
  nd : l.Nodup
def TOok (G : Gam) (Pn : Nat → V) (W : WX) (t : TE) (f : Rho → R (Nat × D × Rho)) : Prop :=
  ∀ (F : Hp) (ρ : Rho) (σ : L2.St) (H : Hp) (A : Nat → List Addr) (Q : VK), Sim G Pn F ρ σ H A →
    (∀ k d ρ', f ρ = .ok (k, d, ρ') → ∀ v F' H' A' l, Step F H A F' H' A' → Sim G Pn F' ρ' σ H' A' → Tmp G F' H' A' k d v l → (∀ a ∈ l, (∃ j, a ∈ A j) ∨ H a = none) → Q v H') →
    (∀ c w ρ', f ρ = .exc c w ρ' → ExcOk G Pn W F H A c w ρ') → f ρ ≠ .bad → t σ H Q
def TSok (G : Gam) (Pn : Nat → V) (W : WX) (t : TS) (f : Rho → S) : Prop :=
  ∀ (F : Hp) (ρ : Rho) (σ : L2.St) (H : Hp) (A : Nat → List Addr) (E : Ends), Sim G Pn F ρ σ H A →
    (∀ ρ', f ρ = .nx ρ' → ∀ σ' F' H' A', Step F H A F' H' A' → Sim G Pn F' ρ' σ' H' A' → E.nx σ' H') →
    (∀ ρ', f ρ = .bk ρ' → ∀ σ' F' H' A', Step F H A F' H' A' → Sim G Pn F' ρ' σ' H' A' → E.bk σ' H') →
    (∀ ρ', f ρ = .ct ρ' → ∀ σ' F' H' A', Step F H A F' H' A' → Sim G Pn F' ρ' σ' H' A' → E.ct σ' H') →
    (∀ k d ρ', f ρ = .rt k d ρ' → ∀ v σ' F' H' A' l, Step F H A F' H' A' → Sim G Pn F' ρ' σ' H' A' → Tmp G F' H' A' k d v l → (∀ a ∈ l, (∃ j, a ∈ A j) ∨ H a = none) → E.rt v H') →
    (∀ c w ρ', f ρ = .exc c w ρ' → ExcOk G Pn W F H A c w ρ') → f ρ ≠ .bad → t E σ H
end DL
end
noncomputable section
set_option maxRecDepth 100000
set_option maxHeartbeats 2000000
/-! ## DL2: the family of contexts, expressions -/
namespace DL
open PySem PySem.Spec PyProof.Rows L2

/-- the contexts in which a piece of the text stands (a def's body; a comprehension's block), and what is fixed in all of them -/
structure Cxt where
  ι : Type
  X : ι → Cx
  G : Gam
  Pn : Nat → V
  W : WX
  P : Program
  w : World
  mg : Str → Option Value
  base : Heap
  lv : Nat
  hK : ∀ i, (X i).K = G.K
  hP : ∀ i, (X i).prog = P
  hw : ∀ i, (X i).w = w
  hm : ∀ i, (X i).mg = mg
  hb : ∀ i, (X i).base = base
  tk : ∀ i, Takes (X i) W
  calm : ∀ i, (X i).calm = true
  nd : ∀ i, (X i).N.Nodup
  room : ∀ i, Room lv (X i).A
  po : ∀ i, PassesOwn (model (X i).prog (X i).w) (X i).A (X i).env (X i).xe

def QX (C : Cxt) (e : Expr) (f : Rho → R (D × Rho)) : Prop := ∃ t, (∀ i, PE (C.X i) e t) ∧ TEok C.G C.Pn C.W t f
def QO (C : Cxt) (e : Expr) (f : Rho → R (Nat × D × Rho)) : Prop := ∃ t, (∀ i, PE (C.X i) e t) ∧ TOok C.G C.Pn C.W t f
def QA (C : Cxt) (es : List Expr) (f : Rho → R (List D × Rho)) : Prop := ∃ t, (∀ i, PA (C.X i) es t) ∧ TAok C.G C.Pn C.W t f ∧ ∀ ρ ds ρ', f ρ = .ok (ds, ρ') → ds.length = es.length
def QT (C : Cxt) (e : Expr) (f : Rho → R (Bool × Rho)) : Prop := ∃ t, (∀ i, PT (C.X i) e t) ∧ TTok C.G C.Pn C.W t f
def QW (C : Cxt) (e : Expr) (f : Rho → R (Bool × Rho)) : Prop := ∃ t, (∀ i, PW (C.X i) e t) ∧ TTok C.G C.Pn C.W t f
def QS (C : Cxt) (st : Stmt) (f : Rho → S) : Prop := ∃ t, (∀ i, PS (C.X i) st t) ∧ TSok C.G C.Pn C.W t f
def QSs (C : Cxt) (sts : List Stmt) (f : Rho → S) : Prop := ∃ t, (∀ i, PSs (C.X i) sts t) ∧ TSok C.G C.Pn C.W t f

section
variable {G : Gam} {Pn : Nat → V} {W : WX} {F H : Hp} {ρ : Rho} {σ : L2.St} {A : Nat → List Addr}
theorem Sim.fro (s : Sim G Pn F ρ σ H A) {j : Nat} {d : D} (h : ρ[j]? = some (.fro d)) : ∃ v, σ[j]? = some (some v) ∧ Rep G F d v := by
  have q := s.sl j
  rw [h] at q
  exact q.1
theorem Sim.own (s : Sim G Pn F ρ σ H A) {j k : Nat} {io : Bool} {d : D} (h : ρ[j]? = some (.own io k d)) : ∃ v, σ[j]? = some (some v) ∧ (io = true → v = Pn j) ∧ Own G F H d k v (A j) := by
  have q := s.sl j
  rw [h] at q
  exact q
theorem Sim.lt (s : Sim G Pn F ρ σ H A) {j : Nat} {x : Sl} (h : ρ[j]? = some x) : j < σ.length := by
  rw [← s.len]
  exact (List.getElem?_eq_some_iff.mp h).1
theorem SlotRep.mono {F' H' : Hp} {i : Nat} {a : Option Sl} {b : Option (Option V)} {l : List Addr} (e : Le F F') (k : ∀ a ∈ l, ∀ o, H a = some o → H' a = some o) (h : SlotRep G Pn F H i a b l) : SlotRep G Pn F' H' i a b l := by
  cases a with
  | none => exact h
  | some x =>
    cases x with
    | no => exact h
    | fro d =>
      obtain ⟨⟨v, e1, r⟩, z⟩ := h
      exact ⟨⟨v, e1, Rep.mono e d r⟩, z⟩
    | own io j d =>
      obtain ⟨v, e1, e2, r⟩ := h
      exact ⟨v, e1, e2, Own.mono e d k r⟩
/-- a new object that is frozen at once -/
theorem Sim.new (s : Sim G Pn F ρ σ H A) {p : Addr} {o : HO} (hp : H p = none) : Sim G Pn (upd F p o) ρ σ (upd H p o) A ∧ Step F H A (upd F p o) (upd H p o) A := by
  have le : Le F (upd F p o) := fun a u e => by
    rw [upd_ne (ne_of_none (s.sub a u e) hp)]
    exact e
  have nA : ∀ i a, a ∈ A i → a ≠ p := fun i a ha e => by
    have q := s.sl i
    have th : ∃ u, H a = some u := by
      unfold SlotRep at q
      split at q
      · rw [q.2] at ha; cases ha
      · obtain ⟨v, _, _, ow⟩ := q
        exact Own.there _ ow a ha
      · rw [q] at ha; cases ha
    obtain ⟨u, hu⟩ := th
    rw [e, hp] at hu; cases hu
  refine ⟨⟨fun a u e => ?_, s.len, fun i => ?_, fun i a ha => ?_, s.nd, s.dj⟩, ⟨le, fun a u e _ => by rw [upd_ne (ne_of_none e hp)]; exact e, fun a u e => ?_, fun i a ha => .inl ⟨i, ha⟩⟩⟩
  · by_cases q : a = p
    · subst q; rw [upd_same] at e ⊢; exact e
    · rw [upd_ne q] at e ⊢; exact s.sub a u e
  · exact (s.sl i).mono le fun a ha u e => by rw [upd_ne (nA i a ha)]; exact e
  · rw [upd_ne (nA i a ha)]; exact s.nf i a ha
  · by_cases q : a = p
    · subst q; exact .inr (.inr hp)
    · rw [upd_ne q] at e; exact .inl e
theorem Sim.apart (s : Sim G Pn F ρ σ H A) {p : Addr} (hp : H p = none) : ∀ i, p ∉ A i := fun i ha => by
  have q := s.sl i
  have th : ∃ u, H p = some u := by
    unfold SlotRep at q
    split at q
    · rw [q.2] at ha; cases ha
    · obtain ⟨v, _, _, ow⟩ := q
      exact Own.there _ ow p ha
    · rw [q] at ha; cases ha
  obtain ⟨u, hu⟩ := th
  rw [hp] at hu; cases hu
/-- a new object that is owned by nobody yet -/
theorem Sim.newO (s : Sim G Pn F ρ σ H A) {p : Addr} {o : HO} (hp : H p = none) : Sim G Pn F ρ σ (upd H p o) A ∧ Step F H A F (upd H p o) A := by
  have nA := s.apart hp
  refine ⟨⟨fun a u e => ?_, s.len, fun i => ?_, s.nf, s.nd, s.dj⟩, ⟨Le.refl F, fun a u e _ => by rw [upd_ne (ne_of_none e hp)]; exact e, fun a u e => .inl e, fun i a ha => .inl ⟨i, ha⟩⟩⟩
  · rw [upd_ne (ne_of_none (s.sub a u e) hp)]; exact s.sub a u e
  · exact (s.sl i).mono (Le.refl F) fun a ha u e => by rw [upd_ne (show a ≠ p from fun q => nA i (by rw [← q]; exact ha))]; exact e
/-- an unowned thing is frozen -/
theorem Sim.freeze (s : Sim G Pn F ρ σ H A) {k : Nat} {d : D} {v : V} {l : List Addr} (t : Tmp G F H A k d v l) :
    ∃ F', Sim G Pn F' ρ σ H A ∧ Le F F' ∧ Rep G F' d v ∧ (∀ a o, F' a = some o → F a = some o ∨ a ∈ l) := by
  classical
  refine ⟨fun a => if a ∈ l then H a else F a, ?_, ?_, ?_, ?_⟩
  · refine ⟨fun a u e => ?_, s.len, fun i => ?_, fun i a ha => ?_, s.nd, s.dj⟩
    · split at e
      · exact e
      · exact s.sub a u e
    · refine (s.sl i).mono (fun a u e => ?_) fun a _ u e => e
      try dsimp only
      rw [if_neg fun q => by rw [t.nf a q] at e; cases e]
      exact e
    · try dsimp only
      rw [if_neg fun q => t.na a q i ha]
      exact s.nf i a ha
  · intro a u e
    try dsimp only
    rw [if_neg fun q => by rw [t.nf a q] at e; cases e]
    exact e
  · refine Own.freeze (fun a u e => ?_) d (fun a ha => ?_) t.own
    · try dsimp only
      rw [if_neg fun q => by rw [t.nf a q] at e; cases e]
      exact e
    · try dsimp only
      rw [if_pos ha]
  · intro a u e
    try dsimp only at e
    split at e
    · rename_i q
      exact .inr q
    · exact .inl e

/-! ### composing -/
theorem R.bind_ok {α β : Type} {r : R α} {a : α} {k : α → R β} (h : r = .ok a) : r.bind k = k a := by rw [h]; rfl
theorem R.bind_exc {α β : Type} {r : R α} {c : Nat} {w : D} {ρ : Rho} {k : α → R β} (h : r = .exc c w ρ) : r.bind k = .exc c w ρ := by rw [h]; rfl
theorem R.bind_bad {α β : Type} {r : R α} {k : α → R β} (h : r.bind k ≠ .bad) : r ≠ .bad := fun e => h (by rw [e]; rfl)
end

/-! ### results of operations on values -/
inductive O where
  | ok (d : D) | exc (c : Nat) (w : D) | bad
def O.toR (o : O) (ρ : Rho) : R (D × Rho) := match o with
  | .ok d => .ok (d, ρ)
  | .exc c w => .exc c w ρ
  | .bad => .bad
theorem O.ok_of {o : O} {ρ ρ' : Rho} {d : D} (h : o.toR ρ = .ok (d, ρ')) : o = .ok d ∧ ρ' = ρ := by
  cases o with
  | ok e => unfold O.toR at h; cases h; exact ⟨rfl, rfl⟩
  | exc c w => unfold O.toR at h; cases h
  | bad => unfold O.toR at h; cases h
theorem O.exc_of {o : O} {ρ ρ' : Rho} {c : Nat} {w : D} (h : o.toR ρ = .exc c w ρ') : o = .exc c w ∧ ρ' = ρ := by
  cases o with
  | ok e => unfold O.toR at h; cases h
  | exc c w => unfold O.toR at h; cases h; exact ⟨rfl, rfl⟩
  | bad => unfold O.toR at h; cases h
theorem O.bad_of {o : O} {ρ : Rho} (h : o.toR ρ ≠ .bad) : o ≠ .bad := fun e => h (by rw [e]; rfl)

/-- a two-place operation on values -/
def V2ok (G : Gam) (Pn : Nat → V) (W : WX) (r : R2) (op : D → D → O) : Prop :=
  ∀ (F : Hp) (ρ : Rho) (σ : L2.St) (H : Hp) (A : Nat → List Addr) (x y : D) (v u : V) (Q : VK), Sim G Pn F ρ σ H A → Rep G F x v → Rep G F y u →
    (∀ d, op x y = .ok d → ∀ w F' H' A', Step F H A F' H' A' → Sim G Pn F' ρ σ H' A' → Rep G F' d w → Q w H') →
    op x y ≠ .bad → (∀ c w, op x y ≠ .exc c w) → r v u H Q
def V1ok (G : Gam) (Pn : Nat → V) (W : WX) (r : V → Hp → VK → Prop) (op : D → O) : Prop :=
  ∀ (F : Hp) (ρ : Rho) (σ : L2.St) (H : Hp) (A : Nat → List Addr) (x : D) (v : V) (Q : VK), Sim G Pn F ρ σ H A → Rep G F x v →
    (∀ d, op x = .ok d → ∀ w F' H' A', Step F H A F' H' A' → Sim G Pn F' ρ σ H' A' → Rep G F' d w → Q w H') →
    op x ≠ .bad → (∀ c w, op x ≠ .exc c w) → r v H Q
/-- a function of values: builtin calls -/
def VLok (G : Gam) (Pn : Nat → V) (W : WX) (r : List V → Hp → VK → Prop) (op : List D → O) : Prop :=
  ∀ (F : Hp) (ρ : Rho) (σ : L2.St) (H : Hp) (A : Nat → List Addr) (xs : List D) (vs : List V) (Q : VK), Sim G Pn F ρ σ H A → RepL G F xs vs →
    (∀ d, op xs = .ok d → ∀ w F' H' A', Step F H A F' H' A' → Sim G Pn F' ρ σ H' A' → Rep G F' d w → Q w H') →
    op xs ≠ .bad → (∀ c w, op xs ≠ .exc c w) → r vs H Q

def dVar (j : Nat) : Rho → R (D × Rho) := fun ρ => match ρ[j]? with
  | some (.fro d) => .ok (d, ρ)
  | _ => .bad
def dC (d : D) : Rho → R (D × Rho) := fun ρ => .ok (d, ρ)
def O.noExc : O → O
  | .exc _ _ => .bad
  | o => o
def dOp (op : D → D → O) (fa fb : Rho → R (D × Rho)) : Rho → R (D × Rho) := fun ρ => (fa ρ).bind fun p => (fb p.2).bind fun q => (op p.1 q.1).noExc.toR q.2
def dUn (op : D → O) (fa : Rho → R (D × Rho)) : Rho → R (D × Rho) := fun ρ => (fa ρ).bind fun p => (op p.1).noExc.toR p.2
def dLs (op : List D → O) (fa : Rho → R (List D × Rho)) : Rho → R (D × Rho) := fun ρ => (fa ρ).bind fun p => (op p.1).noExc.toR p.2
theorem O.noExc_ok {o : O} {d : D} (h : o = .ok d) : o.noExc = .ok d := by rw [h]; rfl
theorem O.noExc_bad {o : O} (h : o.noExc ≠ .bad) : o ≠ .bad ∧ ∀ c w, o ≠ .exc c w := by
  cases o with
  | ok d => exact ⟨(fun z => nomatch z), fun _ _ z => nomatch z⟩
  | exc c w => exact absurd rfl h
  | bad => exact absurd rfl h

section
variable {G : Gam} {Pn : Nat → V} {W : WX}
theorem te_var {j : Nat} : TEok G Pn W (tVar j) (dVar j) := by
  intro F ρ σ H A Q s ok ex nb
  unfold dVar at ok nb
  split at ok
  · rename_i d hd
    obtain ⟨v, e, r⟩ := s.fro hd
    exact ⟨v, e, ok d ρ rfl v F H A (Step.refl F H A) s r⟩
  · rename_i hd
    exact absurd (by split <;> first | rfl | (rename_i d q; exact absurd q (hd d))) nb
theorem te_c {d : D} {v : V} (r : ∀ F, Rep G F d v) : TEok G Pn W (tC v) (dC d) := fun F ρ σ H A Q s ok ex nb => ok d ρ rfl v F H A (Step.refl F H A) s (r F)
theorem te_op {r : R2} {op : D → D → O} {ta tb : TE} {fa fb : Rho → R (D × Rho)} (hr : V2ok G Pn W r op) (ha : TEok G Pn W ta fa) (hb : TEok G Pn W tb fb) : TEok G Pn W (tOp r ta tb) (dOp op fa fb) := by
  intro F ρ σ H A Q s ok ex nb
  refine ha F ρ σ H A _ s (fun x ρ1 e1 v F1 H1 A1 s1 S1 r1 => ?_) (fun c w ρ1 e1 => ex c w ρ1 (R.bind_exc e1)) (R.bind_bad nb)
  have E1 : dOp op fa fb ρ = (fb ρ1).bind fun q => (op x q.1).noExc.toR q.2 := R.bind_ok e1
  rw [E1] at ok ex nb
  refine hb F1 ρ1 σ H1 A1 _ S1 (fun y ρ2 e2 u F2 H2 A2 s2 S2 r2 => ?_) (fun c w ρ2 e2 => (ex c w ρ2 (R.bind_exc e2)).step s1) (R.bind_bad nb)
  have E2 : ((fb ρ1).bind fun q => (op x q.1).noExc.toR q.2) = (op x y).noExc.toR ρ2 := R.bind_ok e2
  rw [E2] at ok ex nb
  obtain ⟨n1, n2⟩ := O.noExc_bad (O.bad_of nb)
  exact hr F2 ρ2 σ H2 A2 x y v u Q S2 (Rep.mono s2.le x r1) r2 (fun d ed w F3 H3 A3 s3 S3 r3 => ok d ρ2 (by rw [O.noExc_ok ed]; rfl) w F3 H3 A3 ((s1.trans s2).trans s3) S3 r3) n1 n2
theorem te_un {r : V → Hp → VK → Prop} {op : D → O} {ta : TE} {fa : Rho → R (D × Rho)} (hr : V1ok G Pn W r op) (ha : TEok G Pn W ta fa) : TEok G Pn W (fun σ H Q => ta σ H fun x H1 => r x H1 Q) (dUn op fa) := by
  intro F ρ σ H A Q s ok ex nb
  refine ha F ρ σ H A _ s (fun x ρ1 e1 v F1 H1 A1 s1 S1 r1 => ?_) (fun c w ρ1 e1 => ex c w ρ1 (R.bind_exc e1)) (R.bind_bad nb)
  have E1 : dUn op fa ρ = (op x).noExc.toR ρ1 := R.bind_ok e1
  rw [E1] at ok ex nb
  obtain ⟨n1, n2⟩ := O.noExc_bad (O.bad_of nb)
  exact hr F1 ρ1 σ H1 A1 x v Q S1 r1 (fun d ed w F3 H3 A3 s3 S3 r3 => ok d ρ1 (by rw [O.noExc_ok ed]; rfl) w F3 H3 A3 (s1.trans s3) S3 r3) n1 n2
theorem te_ls {r : List V → Hp → VK → Prop} {op : List D → O} {ta : TA} {fa : Rho → R (List D × Rho)} (hr : VLok G Pn W r op) (ha : TAok G Pn W ta fa) : TEok G Pn W (tCB r ta) (dLs op fa) := by
  intro F ρ σ H A Q s ok ex nb
  refine ha F ρ σ H A _ s (fun x ρ1 e1 v F1 H1 A1 s1 S1 r1 => ?_) (fun c w ρ1 e1 => ex c w ρ1 (R.bind_exc e1)) (R.bind_bad nb)
  have E1 : dLs op fa ρ = (op x).noExc.toR ρ1 := R.bind_ok e1
  rw [E1] at ok ex nb
  obtain ⟨n1, n2⟩ := O.noExc_bad (O.bad_of nb)
  exact hr F1 ρ1 σ H1 A1 x v Q S1 r1 (fun d ed w F3 H3 A3 s3 S3 r3 => ok d ρ1 (by rw [O.noExc_ok ed]; rfl) w F3 H3 A3 (s1.trans s3) S3 r3) n1 n2
/-! argument lists -/
def aNil : Rho → R (List D × Rho) := fun ρ => .ok ([], ρ)
def aCons (fa : Rho → R (D × Rho)) (fr : Rho → R (List D × Rho)) : Rho → R (List D × Rho) := fun ρ => (fa ρ).bind fun p => (fr p.2).bind fun q => .ok (p.1 :: q.1, q.2)
theorem ta_nil : TAok G Pn W tNil aNil := fun F ρ σ H A Q s ok ex nb => ok [] ρ rfl [] F H A (Step.refl F H A) s RepL.nil
theorem ta_cons {ta : TE} {tr : TA} {fa : Rho → R (D × Rho)} {fr : Rho → R (List D × Rho)} (ha : TEok G Pn W ta fa) (hr : TAok G Pn W tr fr) : TAok G Pn W (tCons ta tr) (aCons fa fr) := by
  intro F ρ σ H A Q s ok ex nb
  refine ha F ρ σ H A _ s (fun x ρ1 e1 v F1 H1 A1 s1 S1 r1 => ?_) (fun c w ρ1 e1 => ex c w ρ1 (R.bind_exc e1)) (R.bind_bad nb)
  have E1 : aCons fa fr ρ = (fr ρ1).bind fun q => .ok (x :: q.1, q.2) := R.bind_ok e1
  rw [E1] at ok ex nb
  refine hr F1 ρ1 σ H1 A1 _ S1 (fun y ρ2 e2 u F2 H2 A2 s2 S2 r2 => ?_) (fun c w ρ2 e2 => (ex c w ρ2 (R.bind_exc e2)).step s1) (R.bind_bad nb)
  have E2 : ((fr ρ1).bind fun q => R.ok (x :: q.1, q.2)) = .ok (x :: y, ρ2) := R.bind_ok e2
  rw [E2] at ok
  exact ok _ ρ2 rfl _ F2 H2 A2 (s1.trans s2) S2 (RepL.cons (Rep.mono s2.le x r1) r2)
end
end DL
end
noncomputable section
set_option maxRecDepth 100000
set_option maxHeartbeats 2000000
/-! ## DL3: tests, statements, stores, iteration, comprehensions: on readings -/
namespace DL
open PySem PySem.Spec PyProof.Rows L2

section
variable {G : Gam} {Pn : Nat → V} {W : WX}

/-! ### tests -/
def asB (ρ : Rho) : D → R (Bool × Rho)
  | .bl b => .ok (b, ρ)
  | _ => .bad
def dB (f : Rho → R (D × Rho)) : Rho → R (Bool × Rho) := fun ρ => (f ρ).bind fun p => asB p.2 p.1
theorem tt_test {t : TE} {f : Rho → R (D × Rho)} (h : TEok G Pn W t f) : TTok G Pn W (tTest t) (dB f) := by
  intro F ρ σ H A Q s ok ex nb
  refine h F ρ σ H A _ s (fun x ρ1 e1 v F1 H1 A1 s1 S1 r1 => ?_) (fun c w ρ1 e1 => ex c w ρ1 (R.bind_exc e1)) (R.bind_bad nb)
  have E1 : dB f ρ = asB ρ1 x := R.bind_ok e1
  rw [E1] at ok ex nb
  cases x with
  | bl b =>
    have q : v = .bl b := by unfold Rep at r1; exact r1
    exact ⟨b, q, ok b ρ1 rfl F1 H1 A1 s1 S1⟩
  | _ => exact absurd rfl nb
theorem tt_b {t : TE} {f : Rho → R (D × Rho)} (h : TEok G Pn W t f) : TTok G Pn W (tB t) (dB f) := tt_test h
def dAnd (a b : Rho → R (Bool × Rho)) : Rho → R (Bool × Rho) := fun ρ => (a ρ).bind fun p => if p.1 = true then b p.2 else .ok (false, p.2)
def dOr (a b : Rho → R (Bool × Rho)) : Rho → R (Bool × Rho) := fun ρ => (a ρ).bind fun p => if p.1 = true then .ok (true, p.2) else b p.2
def dNot (a : Rho → R (Bool × Rho)) : Rho → R (Bool × Rho) := fun ρ => (a ρ).bind fun p => .ok (!p.1, p.2)
theorem TTok.step {t : TT} {f : Rho → R (Bool × Rho)} (h : TTok G Pn W t f) {F F1 H H1 : Hp} {ρ1 : Rho} {σ : L2.St} {A A1 : Nat → List Addr} (s1 : Step F H A F1 H1 A1) (S1 : Sim G Pn F1 ρ1 σ H1 A1) {Q : Bool → Hp → Prop}
    (ok : ∀ b ρ', f ρ1 = .ok (b, ρ') → ∀ F' H' A', Step F H A F' H' A' → Sim G Pn F' ρ' σ H' A' → Q b H') (ex : ∀ c w ρ', f ρ1 = .exc c w ρ' → ExcOk G Pn W F H A c w ρ') (nb : f ρ1 ≠ .bad) : t σ H1 Q :=
  h F1 ρ1 σ H1 A1 Q S1 (fun b ρ' e F' H' A' s' S' => ok b ρ' e F' H' A' (s1.trans s') S') (fun c w ρ' e => (ex c w ρ' e).step s1) nb
theorem tt_and {t u : TT} {a b : Rho → R (Bool × Rho)} (ha : TTok G Pn W t a) (hb : TTok G Pn W u b) : TTok G Pn W (tAnd t u) (dAnd a b) := by
  intro F ρ σ H A Q s ok ex nb
  refine ha F ρ σ H A _ s (fun k ρ1 e1 F1 H1 A1 s1 S1 => ?_) (fun c w ρ1 e1 => ex c w ρ1 (R.bind_exc e1)) (R.bind_bad nb)
  have E1 : dAnd a b ρ = (if k = true then b ρ1 else .ok (false, ρ1)) := R.bind_ok e1
  rw [E1] at ok ex nb
  cases k with
  | true => rw [if_pos rfl] at ok ex nb ⊢; exact hb.step s1 S1 ok ex nb
  | false => rw [if_neg Bool.false_ne_true] at ok ex nb ⊢; exact ok false ρ1 rfl F1 H1 A1 s1 S1
theorem tt_or {t u : TT} {a b : Rho → R (Bool × Rho)} (ha : TTok G Pn W t a) (hb : TTok G Pn W u b) : TTok G Pn W (tOr t u) (dOr a b) := by
  intro F ρ σ H A Q s ok ex nb
  refine ha F ρ σ H A _ s (fun k ρ1 e1 F1 H1 A1 s1 S1 => ?_) (fun c w ρ1 e1 => ex c w ρ1 (R.bind_exc e1)) (R.bind_bad nb)
  have E1 : dOr a b ρ = (if k = true then .ok (true, ρ1) else b ρ1) := R.bind_ok e1
  rw [E1] at ok ex nb
  cases k with
  | true => rw [if_pos rfl] at ok ex nb ⊢; exact ok true ρ1 rfl F1 H1 A1 s1 S1
  | false => rw [if_neg Bool.false_ne_true] at ok ex nb ⊢; exact hb.step s1 S1 ok ex nb
theorem tt_not {t : TT} {a : Rho → R (Bool × Rho)} (ha : TTok G Pn W t a) : TTok G Pn W (tNot t) (dNot a) := by
  intro F ρ σ H A Q s ok ex nb
  refine ha F ρ σ H A _ s (fun k ρ1 e1 F1 H1 A1 s1 S1 => ?_) (fun c w ρ1 e1 => ex c w ρ1 (R.bind_exc e1)) (R.bind_bad nb)
  have E1 : dNot a ρ = .ok (!k, ρ1) := R.bind_ok e1
  exact ok (!k) ρ1 E1 F1 H1 A1 s1 S1
/-- values of and, or, not: truth values -/
def dAndV (a b : Rho → R (D × Rho)) : Rho → R (D × Rho) := fun ρ => (dB a ρ).bind fun p => if p.1 = true then b p.2 else .ok (.bl false, p.2)
def dOrV (a b : Rho → R (D × Rho)) : Rho → R (D × Rho) := fun ρ => (dB a ρ).bind fun p => if p.1 = true then .ok (.bl true, p.2) else b p.2
def dNotV (a : Rho → R (D × Rho)) : Rho → R (D × Rho) := fun ρ => (dB a ρ).bind fun p => .ok (.bl (!p.1), p.2)
theorem TEok.step {t : TE} {f : Rho → R (D × Rho)} (h : TEok G Pn W t f) {F F1 H H1 : Hp} {ρ1 : Rho} {σ : L2.St} {A A1 : Nat → List Addr} (s1 : Step F H A F1 H1 A1) (S1 : Sim G Pn F1 ρ1 σ H1 A1) {Q : VK}
    (ok : ∀ d ρ', f ρ1 = .ok (d, ρ') → ∀ v F' H' A', Step F H A F' H' A' → Sim G Pn F' ρ' σ H' A' → Rep G F' d v → Q v H') (ex : ∀ c w ρ', f ρ1 = .exc c w ρ' → ExcOk G Pn W F H A c w ρ') (nb : f ρ1 ≠ .bad) : t σ H1 Q :=
  h F1 ρ1 σ H1 A1 Q S1 (fun d ρ' e v F' H' A' s' S' r => ok d ρ' e v F' H' A' (s1.trans s') S' r) (fun c w ρ' e => (ex c w ρ' e).step s1) nb
theorem te_andV {t u : TE} {a b : Rho → R (D × Rho)} (ha : TEok G Pn W t a) (hb : TEok G Pn W u b) : TEok G Pn W (tAndV t u) (dAndV a b) := by
  intro F ρ σ H A Q s ok ex nb
  refine (tt_b ha) F ρ σ H A _ s (fun k ρ1 e1 F1 H1 A1 s1 S1 => ?_) (fun c w ρ1 e1 => ex c w ρ1 (R.bind_exc e1)) (R.bind_bad nb)
  have E1 : dAndV a b ρ = (if k = true then b ρ1 else .ok (.bl false, ρ1)) := R.bind_ok e1
  rw [E1] at ok ex nb
  cases k with
  | true => rw [if_pos rfl] at ok ex nb ⊢; exact hb.step s1 S1 ok ex nb
  | false => rw [if_neg Bool.false_ne_true] at ok ex nb ⊢; exact ok _ ρ1 rfl _ F1 H1 A1 s1 S1 (by unfold Rep; rfl)
theorem te_orV {t u : TE} {a b : Rho → R (D × Rho)} (ha : TEok G Pn W t a) (hb : TEok G Pn W u b) : TEok G Pn W (tOrV t u) (dOrV a b) := by
  intro F ρ σ H A Q s ok ex nb
  refine (tt_b ha) F ρ σ H A _ s (fun k ρ1 e1 F1 H1 A1 s1 S1 => ?_) (fun c w ρ1 e1 => ex c w ρ1 (R.bind_exc e1)) (R.bind_bad nb)
  have E1 : dOrV a b ρ = (if k = true then .ok (.bl true, ρ1) else b ρ1) := R.bind_ok e1
  rw [E1] at ok ex nb
  cases k with
  | true => rw [if_pos rfl] at ok ex nb ⊢; exact ok _ ρ1 rfl _ F1 H1 A1 s1 S1 (by unfold Rep; rfl)
  | false => rw [if_neg Bool.false_ne_true] at ok ex nb ⊢; exact hb.step s1 S1 ok ex nb
theorem te_notV {t : TE} {a : Rho → R (D × Rho)} (ha : TEok G Pn W t a) : TEok G Pn W (tNotV t) (dNotV a) := by
  intro F ρ σ H A Q s ok ex nb
  refine (tt_b ha) F ρ σ H A _ s (fun k ρ1 e1 F1 H1 A1 s1 S1 => ?_) (fun c w ρ1 e1 => ex c w ρ1 (R.bind_exc e1)) (R.bind_bad nb)
  have E1 : dNotV a ρ = .ok (.bl (!k), ρ1) := R.bind_ok e1
  exact ok _ ρ1 E1 _ F1 H1 A1 s1 S1 (by unfold Rep; rfl)
def dIfE (c : Rho → R (Bool × Rho)) (a b : Rho → R (D × Rho)) : Rho → R (D × Rho) := fun ρ => (c ρ).bind fun p => if p.1 = true then a p.2 else b p.2
theorem te_if {t : TT} {ta tb : TE} {c : Rho → R (Bool × Rho)} {a b : Rho → R (D × Rho)} (hc : TTok G Pn W t c) (ha : TEok G Pn W ta a) (hb : TEok G Pn W tb b) : TEok G Pn W (tIf t ta tb) (dIfE c a b) := by
  intro F ρ σ H A Q s ok ex nb
  refine hc F ρ σ H A _ s (fun k ρ1 e1 F1 H1 A1 s1 S1 => ?_) (fun c w ρ1 e1 => ex c w ρ1 (R.bind_exc e1)) (R.bind_bad nb)
  have E1 : dIfE c a b ρ = (if k = true then a ρ1 else b ρ1) := R.bind_ok e1
  rw [E1] at ok ex nb
  cases k with
  | true => rw [if_pos rfl] at ok ex nb ⊢; exact ha.step s1 S1 ok ex nb
  | false => rw [if_neg Bool.false_ne_true] at ok ex nb ⊢; exact hb.step s1 S1 ok ex nb
/-- a value's truth -/
def TRok (G : Gam) (Pn : Nat → V) (r : V → Hp → (Bool → Hp → Prop) → Prop) (tr : D → Option Bool) : Prop :=
  ∀ (F : Hp) (ρ : Rho) (σ : L2.St) (H : Hp) (A : Nat → List Addr) (x : D) (v : V) (b : Bool) (Q : Bool → Hp → Prop), Sim G Pn F ρ σ H A → Rep G F x v → tr x = some b →
    (∀ F' H' A', Step F H A F' H' A' → Sim G Pn F' ρ σ H' A' → Q b H') → r v H Q
def ofB (ρ : Rho) : Option Bool → R (Bool × Rho)
  | some b => .ok (b, ρ)
  | none => .bad
def dTru (tr : D → Option Bool) (f : Rho → R (D × Rho)) : Rho → R (Bool × Rho) := fun ρ => (f ρ).bind fun p => ofB p.2 (tr p.1)
theorem tt_tru {t : TE} {f : Rho → R (D × Rho)} {r : V → Hp → (Bool → Hp → Prop) → Prop} {tr : D → Option Bool} (h : TEok G Pn W t f) (hr : TRok G Pn r tr) : TTok G Pn W (fun σ H Q => t σ H fun x H' => r x H' Q) (dTru tr f) := by
  intro F ρ σ H A Q s ok ex nb
  refine h F ρ σ H A _ s (fun x ρ1 e1 v F1 H1 A1 s1 S1 r1 => ?_) (fun c w ρ1 e1 => ex c w ρ1 (R.bind_exc e1)) (R.bind_bad nb)
  have E1 : dTru tr f ρ = ofB ρ1 (tr x) := R.bind_ok e1
  rw [E1] at ok ex nb
  cases q : tr x with
  | none => rw [q] at nb; exact absurd rfl nb
  | some b =>
    rw [q] at ok
    exact hr F1 ρ1 σ H1 A1 x v b Q S1 r1 q fun F' H' A' s' S' => ok b ρ1 rfl F' H' A' (s1.trans s') S'

/-! ### slots set -/
def updA (A : Nat → List Addr) (j : Nat) (l : List Addr) : Nat → List Addr := fun i => if i = j then l else A i
theorem updA_same {A : Nat → List Addr} {j : Nat} {l : List Addr} : updA A j l j = l := if_pos rfl
theorem updA_ne {A : Nat → List Addr} {j i : Nat} {l : List Addr} (h : i ≠ j) : updA A j l i = A i := if_neg h
theorem updA_mem {A : Nat → List Addr} {j i : Nat} {l : List Addr} {a : Addr} (h : a ∈ updA A j l i) : (i = j ∧ a ∈ l) ∨ (i ≠ j ∧ a ∈ A i) := by
  by_cases q : i = j
  · subst q; rw [updA_same] at h; exact .inl ⟨rfl, h⟩
  · rw [updA_ne q] at h; exact .inr ⟨q, h⟩
/-- a slot is put to an unowned thing -/
theorem Sim.put {F H : Hp} {ρ : Rho} {σ : L2.St} {A : Nat → List Addr} (s : Sim G Pn F ρ σ H A) {j k : Nat} {d : D} {v : V} {l : List Addr} {io : Bool} (hj : j < ρ.length) (t : Tmp G F H A k d v l) (hio : io = true → v = Pn j)
    (hl : ∀ a ∈ l, (∃ i, a ∈ A i) ∨ True) : Sim G Pn F (ρ.set j (.own io k d)) (σ.set j (some v)) H (updA A j l) := by
  have hjs : j < σ.length := s.len ▸ hj
  refine ⟨s.sub, by rw [List.length_set, List.length_set]; exact s.len, fun i => ?_, fun i a ha => ?_, fun i => ?_, fun i i' a ha hb => ?_⟩
  · by_cases q : i = j
    · subst q
      rw [List.getElem?_set_self hj, List.getElem?_set_self hjs, updA_same]
      exact ⟨v, rfl, hio, t.own⟩
    · rw [List.getElem?_set_ne (Ne.symm q), List.getElem?_set_ne (Ne.symm q), updA_ne q]
      exact s.sl i
  · rcases updA_mem ha with ⟨_, z⟩ | ⟨_, z⟩
    · exact t.nf a z
    · exact s.nf i a z
  · by_cases q : i = j
    · subst q; rw [updA_same]; exact t.nd
    · rw [updA_ne q]; exact s.nd i
  · rcases updA_mem ha with ⟨e1, z1⟩ | ⟨e1, z1⟩ <;> rcases updA_mem hb with ⟨e2, z2⟩ | ⟨e2, z2⟩
    · rw [e1, e2]
    · exact absurd z2 (t.na a z1 i')
    · exact absurd z1 (t.na a z2 i)
    · exact s.dj i i' a z1 z2
theorem Sim.putFro {F H : Hp} {ρ : Rho} {σ : L2.St} {A : Nat → List Addr} (s : Sim G Pn F ρ σ H A) {j : Nat} {d : D} {v : V} (hj : j < ρ.length) (r : Rep G F d v) : Sim G Pn F (ρ.set j (.fro d)) (σ.set j (some v)) H (updA A j []) := by
  have hjs : j < σ.length := s.len ▸ hj
  refine ⟨s.sub, by rw [List.length_set, List.length_set]; exact s.len, fun i => ?_, fun i a ha => ?_, fun i => ?_, fun i i' a ha hb => ?_⟩
  · by_cases q : i = j
    · subst q
      rw [List.getElem?_set_self hj, List.getElem?_set_self hjs, updA_same]
      exact ⟨⟨v, rfl, r⟩, rfl⟩
    · rw [List.getElem?_set_ne (Ne.symm q), List.getElem?_set_ne (Ne.symm q), updA_ne q]
      exact s.sl i
  · rcases updA_mem ha with ⟨_, z⟩ | ⟨_, z⟩
    · cases z
    · exact s.nf i a z
  · by_cases q : i = j
    · subst q; rw [updA_same]; exact List.nodup_nil
    · rw [updA_ne q]; exact s.nd i
  · rcases updA_mem ha with ⟨e1, z1⟩ | ⟨e1, z1⟩
    · cases z1
    · rcases updA_mem hb with ⟨e2, z2⟩ | ⟨e2, z2⟩
      · cases z2
      · exact s.dj i i' a z1 z2
theorem Step.drop {F H : Hp} {A : Nat → List Addr} {j : Nat} : Step F H A F H (updA A j []) := ⟨Le.refl F, fun _ _ h _ => h, fun _ _ h => .inl h, fun i a h => by
  rcases updA_mem h with ⟨_, z⟩ | ⟨_, z⟩
  · cases z
  · exact .inl ⟨i, z⟩⟩
/-- a slot forgotten -/
theorem Sim.forget {F H : Hp} {ρ : Rho} {σ : L2.St} {A : Nat → List Addr} (s : Sim G Pn F ρ σ H A) (j : Nat) : Sim G Pn F (ρ.set j .no) σ H (updA A j []) := by
  refine ⟨s.sub, by rw [List.length_set]; exact s.len, fun i => ?_, fun i a ha => ?_, fun i => ?_, fun i i' a ha hb => ?_⟩
  · by_cases q : i = j
    · subst q
      rw [updA_same]
      by_cases hj : i < ρ.length
      · rw [List.getElem?_set_self hj]; exact rfl
      · rw [List.getElem?_eq_none (by rw [List.length_set]; omega)]; exact rfl
    · rw [List.getElem?_set_ne (Ne.symm q), updA_ne q]
      exact s.sl i
  · rcases updA_mem ha with ⟨_, z⟩ | ⟨_, z⟩
    · cases z
    · exact s.nf i a z
  · by_cases q : i = j
    · subst q; rw [updA_same]; exact List.nodup_nil
    · rw [updA_ne q]; exact s.nd i
  · rcases updA_mem ha with ⟨e1, z1⟩ | ⟨e1, z1⟩
    · cases z1
    · rcases updA_mem hb with ⟨e2, z2⟩ | ⟨e2, z2⟩
      · cases z2
      · exact s.dj i i' a z1 z2
/-- an owned slot's things are taken out -/
theorem Sim.takeOut {F H : Hp} {ρ : Rho} {σ : L2.St} {A : Nat → List Addr} (s : Sim G Pn F ρ σ H A) {j k : Nat} {d : D} {io : Bool} (h : ρ[j]? = some (.own io k d)) :
    ∃ v, σ[j]? = some (some v) ∧ Tmp G F H (updA A j []) k d v (A j) := by
  obtain ⟨v, e, _, ow⟩ := s.own h
  refine ⟨v, e, ow, s.nf j, fun a ha i hi => ?_, s.nd j⟩
  rcases updA_mem hi with ⟨_, z⟩ | ⟨q, z⟩
  · cases z
  · exact q (s.dj i j a z ha)
/-- an owned slot is written in place -/
theorem Sim.write {F H H' : Hp} {ρ : Rho} {σ : L2.St} {A : Nat → List Addr} (s : Sim G Pn F ρ σ H A) {j k k' : Nat} {d d' : D} {io : Bool} {v : V} {l : List Addr} (h : ρ[j]? = some (.own io k d)) (hv : σ[j]? = some (some v))
    (keep : ∀ a o, H a = some o → a ∉ A j → H' a = some o) (ow : Own G F H' d' k' v l) (nd : l.Nodup) (hl : ∀ a ∈ l, a ∈ A j ∨ (H a = none)) :
    Sim G Pn F (ρ.set j (.own io k' d')) σ H' (updA A j l) ∧ Step F H A F H' (updA A j l) := by
  obtain ⟨v0, e0, p0, ow0⟩ := s.own h
  rw [hv] at e0
  cases e0
  have hj : j < ρ.length := (List.getElem?_eq_some_iff.mp h).1
  refine ⟨⟨fun a u e => keep a u (s.sub a u e) fun z => ?_, by rw [List.length_set]; exact s.len, fun i => ?_, fun i a ha => ?_, fun i => ?_, fun i i' a ha hb => ?_⟩, ⟨Le.refl F, fun a u e n => keep a u e (n j), fun a u e => .inl e, fun i a ha => ?_⟩⟩
  · rw [s.nf j a z] at e; cases e
  · by_cases q : i = j
    · subst q
      rw [List.getElem?_set_self hj, updA_same]
      exact ⟨v, hv, p0, ow⟩
    · rw [List.getElem?_set_ne (Ne.symm q), updA_ne q]
      exact (s.sl i).mono (Le.refl F) fun a ha u e => keep a u e fun z => q (s.dj i j a ha z)
  · rcases updA_mem ha with ⟨_, z⟩ | ⟨_, z⟩
    · rcases hl a z with w | w
      · exact s.nf j a w
      · cases q : F a with
        | none => rfl
        | some u => rw [s.sub a u q] at w; cases w
    · exact s.nf i a z
  · by_cases q : i = j
    · subst q; rw [updA_same]; exact nd
    · rw [updA_ne q]; exact s.nd i
  · rcases updA_mem ha with ⟨e1, z1⟩ | ⟨e1, z1⟩ <;> rcases updA_mem hb with ⟨e2, z2⟩ | ⟨e2, z2⟩
    · rw [e1, e2]
    · rcases hl a z1 with w | w
      · exact absurd (s.dj i' j a z2 w) e2
      · exact absurd z2 (s.apart w i')
    · rcases hl a z2 with w | w
      · exact absurd (s.dj i j a z1 w) e1
      · exact absurd z1 (s.apart w i)
    · exact s.dj i i' a z1 z2
  · rcases updA_mem ha with ⟨_, z⟩ | ⟨_, z⟩
    · rcases hl a z with w | w
      · exact .inl ⟨j, w⟩
      · exact .inr w
    · exact .inl ⟨i, z⟩

/-! ### owned and frozen results -/
def dFr (f : Rho → R (Nat × D × Rho)) : Rho → R (D × Rho) := fun ρ => (f ρ).bind fun p => .ok (p.2.1, p.2.2)
theorem te_fr {t : TE} {f : Rho → R (Nat × D × Rho)} (h : TOok G Pn W t f) : TEok G Pn W t (dFr f) := by
  intro F ρ σ H A Q s ok ex nb
  refine h F ρ σ H A _ s (fun k x ρ1 e1 v F1 H1 A1 l s1 S1 t1 hl => ?_) (fun c w ρ1 e1 => ex c w ρ1 (R.bind_exc e1)) (R.bind_bad nb)
  have E1 : dFr f ρ = .ok (x, ρ1) := R.bind_ok e1
  obtain ⟨F2, S2, le, r, fr⟩ := S1.freeze t1
  exact ok x ρ1 E1 v F2 H1 A1 ⟨s1.le.trans le, s1.keep, fun a o e => by
    rcases fr a o e with z | z
    · exact s1.fre a o z
    · rcases hl a z with w | w
      · exact .inr (.inl w)
      · exact .inr (.inr w), s1.own⟩ S2 r
def dMove (j : Nat) : Rho → R (Nat × D × Rho) := fun ρ => match ρ[j]? with
  | some (.own false k d) => .ok (k, d, ρ.set j .no)
  | _ => .bad
theorem to_move {j : Nat} : TOok G Pn W (tVar j) (dMove j) := by
  intro F ρ σ H A Q s ok ex nb
  unfold dMove at ok nb
  split at ok
  · rename_i k d hd
    obtain ⟨v, e, t⟩ := s.takeOut hd
    exact ⟨v, e, ok k d _ rfl v F H _ (A j) Step.drop (s.forget j) t fun a ha => .inl ⟨j, ha⟩⟩
  · rename_i hd
    exact absurd (by split <;> first | rfl | (rename_i k d q; exact absurd q (hd k d))) nb

/-! ### statements -/
def sNext : Rho → S := fun ρ => .nx ρ
theorem ts_next : TSok G Pn W tNext sNext := fun F ρ σ H A E s nx bk ct rt ex nb => nx ρ rfl σ F H A (Step.refl F H A) s
def sBrk : Rho → S := fun ρ => .bk ρ
theorem ts_break : TSok G Pn W tBreak sBrk := fun F ρ σ H A E s nx bk ct rt ex nb => bk ρ rfl σ F H A (Step.refl F H A) s
def sCnt : Rho → S := fun ρ => .ct ρ
theorem ts_cont : TSok G Pn W tCont sCnt := fun F ρ σ H A E s nx bk ct rt ex nb => ct ρ rfl σ F H A (Step.refl F H A) s
def sBad : Rho → S := fun _ => .bad
theorem ts_never : TSok G Pn W tNever sBad := fun F ρ σ H A E s nx bk ct rt ex nb => absurd rfl nb
def sSeq (a b : Rho → S) : Rho → S := fun ρ => (a ρ).seq b
theorem S.seq_nx {s : S} {k : Rho → S} {ρ : Rho} (h : s = .nx ρ) : s.seq k = k ρ := by rw [h]; rfl
theorem TSok.step {t : TS} {f : Rho → S} (h : TSok G Pn W t f) {F F1 H H1 : Hp} {ρ1 : Rho} {σ : L2.St} {A A1 : Nat → List Addr} (s1 : Step F H A F1 H1 A1) (S1 : Sim G Pn F1 ρ1 σ H1 A1) {E : Ends}
    (nx : ∀ ρ', f ρ1 = .nx ρ' → ∀ σ' F' H' A', Step F H A F' H' A' → Sim G Pn F' ρ' σ' H' A' → E.nx σ' H')
    (bk : ∀ ρ', f ρ1 = .bk ρ' → ∀ σ' F' H' A', Step F H A F' H' A' → Sim G Pn F' ρ' σ' H' A' → E.bk σ' H')
    (ct : ∀ ρ', f ρ1 = .ct ρ' → ∀ σ' F' H' A', Step F H A F' H' A' → Sim G Pn F' ρ' σ' H' A' → E.ct σ' H')
    (rt : ∀ k d ρ', f ρ1 = .rt k d ρ' → ∀ v σ' F' H' A' l, Step F H A F' H' A' → Sim G Pn F' ρ' σ' H' A' → Tmp G F' H' A' k d v l → (∀ a ∈ l, (∃ j, a ∈ A j) ∨ H a = none) → E.rt v H')
    (ex : ∀ c w ρ', f ρ1 = .exc c w ρ' → ExcOk G Pn W F H A c w ρ') (nb : f ρ1 ≠ .bad) : t E σ H1 :=
  h F1 ρ1 σ H1 A1 E S1 (fun ρ' e σ' F' H' A' s' S' => nx ρ' e σ' F' H' A' (s1.trans s') S') (fun ρ' e σ' F' H' A' s' S' => bk ρ' e σ' F' H' A' (s1.trans s') S') (fun ρ' e σ' F' H' A' s' S' => ct ρ' e σ' F' H' A' (s1.trans s') S')
    (fun k d ρ' e v σ' F' H' A' l s' S' T' hl => rt k d ρ' e v σ' F' H' A' l (s1.trans s') S' T' fun a ha => by
      rcases hl a ha with ⟨i, z⟩ | z
      · exact s1.own i a z
      · cases q : H a with
        | none => exact .inr rfl
        | some u =>
          refine .inl (Classical.byContradiction fun n => ?_)
          have := s1.keep a u q fun i hi => n ⟨i, hi⟩
          rw [z] at this; cases this)
    (fun c w ρ' e => (ex c w ρ' e).step s1) nb
theorem ts_seq {t u : TS} {a b : Rho → S} (ha : TSok G Pn W t a) (hb : TSok G Pn W u b) : TSok G Pn W (tSeq t u) (sSeq a b) := by
  intro F ρ σ H A E s nx bk ct rt ex nb
  have hs : ∀ {x : S}, a ρ = x → sSeq a b ρ = x.seq b := fun {x} h => by show (a ρ).seq b = _; rw [h]
  refine ha F ρ σ H A { E with nx := u E } s (fun ρ1 e1 σ1 F1 H1 A1 s1 S1 => ?_) (fun ρ1 e1 => bk ρ1 (hs e1)) (fun ρ1 e1 => ct ρ1 (hs e1)) (fun k d ρ1 e1 => rt k d ρ1 (hs e1)) (fun c w ρ1 e1 => ex c w ρ1 (hs e1)) (fun e => nb (hs e))
  have E1 := hs e1
  rw [show (S.nx ρ1).seq b = b ρ1 from rfl] at E1
  rw [E1] at nx bk ct rt ex nb
  exact hb.step s1 S1 nx bk ct rt ex nb
def sDrop (f : Rho → R (D × Rho)) : Rho → S := fun ρ => (f ρ).thn fun p => .nx p.2
theorem R.thn_ok {α : Type} {r : R α} {a : α} {k : α → S} (h : r = .ok a) : r.thn k = k a := by rw [h]; rfl
theorem R.thn_exc {α : Type} {r : R α} {c : Nat} {w : D} {ρ : Rho} {k : α → S} (h : r = .exc c w ρ) : r.thn k = .exc c w ρ := by rw [h]; rfl
theorem R.thn_bad {α : Type} {r : R α} {k : α → S} (h : r.thn k ≠ .bad) : r ≠ .bad := fun e => h (by rw [e]; rfl)
theorem ts_drop {t : TE} {f : Rho → R (D × Rho)} (h : TEok G Pn W t f) : TSok G Pn W (tDrop t) (sDrop f) := by
  intro F ρ σ H A E s nx bk ct rt ex nb
  refine h F ρ σ H A _ s (fun x ρ1 e1 v F1 H1 A1 s1 S1 r1 => ?_) (fun c w ρ1 e1 => ex c w ρ1 (R.thn_exc e1)) (R.thn_bad nb)
  exact nx ρ1 (R.thn_ok e1) σ F1 H1 A1 s1 S1
def sRet (f : Rho → R (D × Rho)) : Rho → S := fun ρ => (f ρ).thn fun p => .rt 0 p.1 p.2
theorem Tmp.ofRep {F H : Hp} {A : Nat → List Addr} {d : D} {v : V} (r : Rep G F d v) : Tmp G F H A 0 d v [] := ⟨Own.zero.mpr ⟨r, rfl⟩, (fun _ h => nomatch h), (fun _ h => nomatch h), List.nodup_nil⟩
theorem ts_ret {t : TE} {f : Rho → R (D × Rho)} (h : TEok G Pn W t f) : TSok G Pn W (tRet t) (sRet f) := by
  intro F ρ σ H A E s nx bk ct rt ex nb
  refine h F ρ σ H A _ s (fun x ρ1 e1 v F1 H1 A1 s1 S1 r1 => ?_) (fun c w ρ1 e1 => ex c w ρ1 (R.thn_exc e1)) (R.thn_bad nb)
  exact rt 0 x ρ1 (R.thn_ok e1) v σ F1 H1 A1 [] s1 S1 (Tmp.ofRep r1) fun _ h => nomatch h
def sRetO (f : Rho → R (Nat × D × Rho)) : Rho → S := fun ρ => (f ρ).thn fun p => .rt p.1 p.2.1 p.2.2
theorem ts_retO {t : TE} {f : Rho → R (Nat × D × Rho)} (h : TOok G Pn W t f) : TSok G Pn W (tRet t) (sRetO f) := by
  intro F ρ σ H A E s nx bk ct rt ex nb
  refine h F ρ σ H A _ s (fun k x ρ1 e1 v F1 H1 A1 l s1 S1 t1 hl => ?_) (fun c w ρ1 e1 => ex c w ρ1 (R.thn_exc e1)) (R.thn_bad nb)
  exact rt k x ρ1 (R.thn_ok e1) v σ F1 H1 A1 l s1 S1 t1 hl
def sIf (c : Rho → R (Bool × Rho)) (a b : Rho → S) : Rho → S := fun ρ => (c ρ).thn fun p => if p.1 = true then a p.2 else b p.2
theorem ts_if {t : TT} {ta tb : TS} {c : Rho → R (Bool × Rho)} {a b : Rho → S} (hc : TTok G Pn W t c) (ha : TSok G Pn W ta a) (hb : TSok G Pn W tb b) : TSok G Pn W (tIfS t ta tb) (sIf c a b) := by
  intro F ρ σ H A E s nx bk ct rt ex nb
  refine hc F ρ σ H A _ s (fun k ρ1 e1 F1 H1 A1 s1 S1 => ?_) (fun c w ρ1 e1 => ex c w ρ1 (R.thn_exc e1)) (R.thn_bad nb)
  have E1 : sIf c a b ρ = (if k = true then a ρ1 else b ρ1) := R.thn_ok e1
  rw [E1] at nx bk ct rt ex nb
  cases k with
  | true => rw [if_pos rfl] at nx bk ct rt ex nb ⊢; exact ha.step s1 S1 nx bk ct rt ex nb
  | false => rw [if_neg Bool.false_ne_true] at nx bk ct rt ex nb ⊢; exact hb.step s1 S1 nx bk ct rt ex nb
/-- name = e, frozen -/
def putFro (j : Nat) (d : D) (ρ : Rho) : Option Rho := match ρ[j]? with
  | some (.own true _ _) => none
  | some _ => some (ρ.set j (.fro d))
  | none => none
theorem putFro_lt {j : Nat} {d : D} {ρ ρ' : Rho} (h : putFro j d ρ = some ρ') : j < ρ.length ∧ ρ' = ρ.set j (.fro d) := by
  unfold putFro at h
  split at h
  · cases h
  · rename_i x _ e
    exact ⟨(List.getElem?_eq_some_iff.mp e).1, (Option.some.inj h).symm⟩
  · cases h
def S.ofO (o : Option Rho) : S := match o with
  | some ρ => .nx ρ
  | none => .bad
def sAsg (j : Nat) (f : Rho → R (D × Rho)) : Rho → S := fun ρ => (f ρ).thn fun p => .ofO (putFro j p.1 p.2)
theorem ts_asg {j : Nat} {t : TE} {f : Rho → R (D × Rho)} (h : TEok G Pn W t f) : TSok G Pn W (tAsg t (gName j)) (sAsg j f) := by
  intro F ρ σ H A E s nx bk ct rt ex nb
  refine h F ρ σ H A _ s (fun x ρ1 e1 v F1 H1 A1 s1 S1 r1 => ?_) (fun c w ρ1 e1 => ex c w ρ1 (R.thn_exc e1)) (R.thn_bad nb)
  have E1 : sAsg j f ρ = .ofO (putFro j x ρ1) := R.thn_ok e1
  cases q : putFro j x ρ1 with
  | none => rw [E1, q] at nb; exact absurd rfl nb
  | some ρ2 =>
    rw [E1, q] at nx
    obtain ⟨hj, e2⟩ := putFro_lt q
    subst e2
    exact nx _ rfl _ F1 H1 _ (s1.trans Step.drop) (S1.putFro hj r1)
def putOwn (j k : Nat) (d : D) (ρ : Rho) : Option Rho := match ρ[j]? with
  | some (.own true _ _) => none
  | some _ => some (ρ.set j (.own false k d))
  | none => none
theorem putOwn_lt {j k : Nat} {d : D} {ρ ρ' : Rho} (h : putOwn j k d ρ = some ρ') : j < ρ.length ∧ ρ' = ρ.set j (.own false k d) := by
  unfold putOwn at h
  split at h
  · cases h
  · rename_i x _ e
    exact ⟨(List.getElem?_eq_some_iff.mp e).1, (Option.some.inj h).symm⟩
  · cases h
def sAsgO (j : Nat) (f : Rho → R (Nat × D × Rho)) : Rho → S := fun ρ => (f ρ).thn fun p => .ofO (putOwn j p.1 p.2.1 p.2.2)
theorem ts_asgO {j : Nat} {t : TE} {f : Rho → R (Nat × D × Rho)} (h : TOok G Pn W t f) : TSok G Pn W (tAsg t (gName j)) (sAsgO j f) := by
  intro F ρ σ H A E s nx bk ct rt ex nb
  refine h F ρ σ H A _ s (fun k x ρ1 e1 v F1 H1 A1 l s1 S1 t1 hl => ?_) (fun c w ρ1 e1 => ex c w ρ1 (R.thn_exc e1)) (R.thn_bad nb)
  have E1 : sAsgO j f ρ = .ofO (putOwn j k x ρ1) := R.thn_ok e1
  cases q : putOwn j k x ρ1 with
  | none => rw [E1, q] at nb; exact absurd rfl nb
  | some ρ2 =>
    rw [E1, q] at nx
    obtain ⟨hj, e2⟩ := putOwn_lt q
    subst e2
    refine nx _ rfl _ F1 H1 (updA A1 j l) ⟨s1.le, s1.keep, s1.fre, fun i a ha => ?_⟩ (S1.put hj t1 (fun z => nomatch z) fun _ _ => .inr trivial)
    rcases updA_mem ha with ⟨_, z⟩ | ⟨_, z⟩
    · exact hl a z
    · exact s1.own i a z
/-- a slot is frozen ahead of a piece -/
def frz (j : Nat) (ρ : Rho) : Option Rho := match ρ[j]? with
  | some (.own false _ d) => some (ρ.set j (.fro d))
  | some (.fro d) => some ρ
  | _ => none
def sFrz (j : Nat) (f : Rho → S) : Rho → S := fun ρ => match frz j ρ with
  | some ρ' => f ρ'
  | none => .bad
theorem ts_frz {j : Nat} {t : TS} {f : Rho → S} (h : TSok G Pn W t f) : TSok G Pn W t (sFrz j f) := by
  intro F ρ σ H A E s nx bk ct rt ex nb
  unfold sFrz at nx bk ct rt ex nb
  cases q : frz j ρ with
  | none => rw [q] at nb; exact absurd rfl nb
  | some ρ1 =>
    rw [q] at nx bk ct rt ex nb
    unfold frz at q
    split at q
    · rename_i k d hd
      cases q
      obtain ⟨v, ev, T⟩ := s.takeOut hd
      have S1 := s.forget j
      obtain ⟨F2, S2, le, r, fr⟩ := S1.freeze T
      have hj : j < ρ.length := (List.getElem?_eq_some_iff.mp hd).1
      have S3 := S2.putFro (j := j) (by rw [List.length_set]; exact hj) r
      rw [List.set_set] at S3
      have es : σ.set j (some v) = σ := by
        refine List.ext_getElem? fun i => ?_
        by_cases z : j = i
        · subst z; rw [List.getElem?_set_self (by rw [← s.len]; exact hj), ev]
        · rw [List.getElem?_set_ne z]
      rw [es] at S3
      have eA : updA (updA A j []) j [] = updA A j [] := by
        funext i
        by_cases z : i = j
        · subst z; rw [updA_same, updA_same]
        · rw [updA_ne z]
      rw [eA] at S3
      refine h.step ⟨le, fun a o e _ => e, fun a o e => ?_, (Step.drop (F := F) (H := H) (j := j)).own⟩ S3 nx bk ct rt ex nb
      rcases fr a o e with z | z
      · exact .inl z
      · exact .inr (.inl ⟨j, z⟩)
    · cases q
      exact h F ρ σ H A E s nx bk ct rt ex nb
    · cases q
/-- while -/
def S.turn (s : S) (k : Rho → S) : S := match s with
  | .nx ρ => k ρ
  | .ct ρ => k ρ
  | .bk ρ => .nx ρ
  | .rt j d ρ => .rt j d ρ
  | .exc c w ρ => .exc c w ρ
  | .bad => .bad
def whileD (c : Rho → R (Bool × Rho)) (b : Rho → S) : Nat → Rho → S
  | 0, _ => .bad
  | n + 1, ρ => (c ρ).thn fun p => if p.1 = true then (b p.2).turn (whileD c b n) else .nx p.2
def sWhile (m : Rho → Nat) (c : Rho → R (Bool × Rho)) (b : Rho → S) : Rho → S := fun ρ => whileD c b (m ρ) ρ
theorem ts_while {m : Rho → Nat} {t : TT} {tb : TS} {c : Rho → R (Bool × Rho)} {b : Rho → S} (hc : TTok G Pn W t c) (hb : TSok G Pn W tb b) : TSok G Pn W (tWhile t tb) (sWhile m c b) := by
  intro F ρ σ H A E s nx bk ct rt ex nb
  unfold sWhile at nx bk ct rt ex nb
  refine ⟨fun n σ1 H1 => ∃ ρ1 F1 A1, whileD c b n ρ1 = whileD c b (m ρ) ρ ∧ Step F H A F1 H1 A1 ∧ Sim G Pn F1 ρ1 σ1 H1 A1, ⟨m ρ, ρ, F, A, rfl, Step.refl F H A, s⟩, ?_⟩
  rintro n σ1 H1 ⟨ρ1, F1, A1, e1, s1, S1⟩
  cases n with
  | zero => exact absurd (show whileD c b (m ρ) ρ = .bad from e1 ▸ rfl) nb
  | succ n =>
    have un : whileD c b (m ρ) ρ = (c ρ1).thn fun p => if p.1 = true then (b p.2).turn (whileD c b n) else .nx p.2 := e1.symm.trans rfl
    rw [un] at nx bk ct rt ex nb
    refine hc F1 ρ1 σ1 H1 A1 _ S1 (fun k ρ2 e2 F2 H2 A2 s2 S2 => ?_) (fun c' w ρ2 e2 => (ex c' w ρ2 (R.thn_exc e2)).step s1) (R.thn_bad nb)
    have s12 := s1.trans s2
    have e3 : whileD c b (m ρ) ρ = if k = true then (b ρ2).turn (whileD c b n) else .nx ρ2 := un.trans (R.thn_ok e2)
    rw [← un, e3] at nx bk ct rt ex nb
    cases k with
    | false => exact nx ρ2 rfl σ1 F2 H2 A2 s12 S2
    | true =>
      rw [if_pos rfl] at nx bk ct rt ex nb e3
      rw [if_pos rfl]
      refine ⟨fun σ3 H3 => ∃ ρ3 F3 A3, whileD c b n ρ3 = whileD c b (m ρ) ρ ∧ Step F H A F3 H3 A3 ∧ Sim G Pn F3 ρ3 σ3 H3 A3, fun σ3 H3 h3 => ⟨n, Nat.lt_succ_self n, h3⟩, ?_⟩
      refine hb.step s12 S2 (fun ρ3 e4 σ3 F3 H3 A3 s3 S3 => ?_) (fun ρ3 e4 σ3 F3 H3 A3 s3 S3 => ?_) (fun ρ3 e4 σ3 F3 H3 A3 s3 S3 => ?_) (fun k d ρ3 e4 => rt k d ρ3 (by rw [e4]; rfl)) (fun c' w ρ3 e4 => ex c' w ρ3 (by rw [e4]; rfl)) (fun z => nb (by rw [z]; rfl))
      · exact ⟨ρ3, F3, A3, by rw [e3, e4]; rfl, s3, S3⟩
      · exact nx ρ3 (by rw [e4]; rfl) σ3 F3 H3 A3 s3 S3
      · exact ⟨ρ3, F3, A3, by rw [e3, e4]; rfl, s3, S3⟩
end
end DL
end
noncomputable section
set_option maxRecDepth 100000
set_option maxHeartbeats 400000
/-! ## DL4: targets, iteration, comprehensions: on readings -/
namespace DL
open PySem PySem.Spec PyProof.Rows L2

section
variable {G : Gam} {Pn : Nat → V} {W : WX}

/-! ### targets: js the slots that may change -/
def TGok (G : Gam) (Pn : Nat → V) (g : TG) (js : List Nat) (fg : D → Rho → Option Rho) : Prop :=
  ∀ (F : Hp) (ρ : Rho) (σ : L2.St) (H : Hp) (A : Nat → List Addr) (d : D) (v : V) (ρ' : Rho) (Q : L2.St → Hp → Prop), Sim G Pn F ρ σ H A → Rep G F d v → fg d ρ = some ρ' →
    (∀ σ' A', Step F H A F H A' → Sim G Pn F ρ' σ' H A' → σ'.length = σ.length → (∀ i, i ∉ js → σ'[i]? = σ[i]?) → Q σ' H) → g v σ H Q
def TGsok (G : Gam) (Pn : Nat → V) (g : TGs) (js : List Nat) (fg : List D → Rho → Option Rho) : Prop :=
  ∀ (F : Hp) (ρ : Rho) (σ : L2.St) (H : Hp) (A : Nat → List Addr) (ds : List D) (vs : List V) (ρ' : Rho) (Q : L2.St → Hp → Prop), Sim G Pn F ρ σ H A → RepL G F ds vs → fg ds ρ = some ρ' →
    (∀ σ' A', Step F H A F H A' → Sim G Pn F ρ' σ' H A' → σ'.length = σ.length → (∀ i, i ∉ js → σ'[i]? = σ[i]?) → Q σ' H) → g vs σ H Q
theorem tg_name {j : Nat} : TGok G Pn (gName j) [j] (putFro j) := by
  intro F ρ σ H A d v ρ' Q s r e k
  obtain ⟨hj, e2⟩ := putFro_lt e
  subst e2
  refine k _ _ Step.drop (s.putFro hj r) (by rw [List.length_set]) fun i hi => ?_
  rw [List.getElem?_set_ne (fun z => hi (by rw [← z]; exact List.mem_cons_self))]
def gsNil : List D → Rho → Option Rho
  | [], ρ => some ρ
  | _ :: _, _ => none
def gsCons (fg : D → Rho → Option Rho) (fr : List D → Rho → Option Rho) : List D → Rho → Option Rho
  | [], _ => none
  | d :: ds, ρ => (fg d ρ).bind (fr ds)
theorem tgs_nil : TGsok G Pn gNil [] gsNil := by
  intro F ρ σ H A ds vs ρ' Q s r e k
  cases ds with
  | cons d ds => cases e
  | nil =>
    cases e
    unfold RepL at r
    exact ⟨r, k σ A (Step.refl F H A) s rfl fun _ _ => rfl⟩
theorem tgs_cons {g : TG} {gr : TGs} {js ks : List Nat} {fg : D → Rho → Option Rho} {fr : List D → Rho → Option Rho} (h : TGok G Pn g js fg) (hr : TGsok G Pn gr ks fr) : TGsok G Pn (gCons g gr) (js ++ ks) (gsCons fg fr) := by
  intro F ρ σ H A ds vs ρ' Q s r e k
  cases ds with
  | nil => cases e
  | cons d ds =>
    unfold RepL at r
    obtain ⟨v, vr, rfl, r1, r2⟩ := r
    have e' : (fg d ρ).bind (fr ds) = some ρ' := e
    cases q : fg d ρ with
    | none => rw [q] at e'; cases e'
    | some ρ1 =>
      rw [q] at e'
      refine ⟨v, vr, rfl, h F ρ σ H A d v ρ1 _ s r1 q fun σ1 A1 s1 S1 l1 n1 => ?_⟩
      refine hr F ρ1 σ1 H A1 ds vr ρ' _ S1 r2 e' fun σ2 A2 s2 S2 l2 n2 => ?_
      refine k σ2 A2 (s1.trans s2) S2 (l2.trans l1) fun i hi => ?_
      rw [n2 i fun z => hi (List.mem_append_right _ z), n1 i fun z => hi (List.mem_append_left _ z)]
def gTupD (n : Nat) (fs : List D → Rho → Option Rho) : D → Rho → Option Rho
  | .tup xs, ρ => if xs.length = n then fs xs ρ else none
  | _, _ => none
theorem tg_tup {gs : TGs} {n : Nat} {js : List Nat} {fs : List D → Rho → Option Rho} (h : TGsok G Pn gs js fs) : TGok G Pn (gTup G.K n gs) js (gTupD n fs) := by
  intro F ρ σ H A d v ρ' Q s r e k
  cases d with
  | tup xs =>
    unfold Rep at r
    obtain ⟨a, vs, rfl, ha, hz, rl⟩ := r
    have e' : (if xs.length = n then fs xs ρ else none) = some ρ' := e
    by_cases hn : xs.length = n
    · rw [if_pos hn] at e'
      exact ⟨a, vs, rfl, SqT.of (s.sub _ _ ha), by rw [← rl.length]; exact hn, h F ρ σ H A xs vs ρ' Q s rl e' k⟩
    · rw [if_neg hn] at e'; cases e'
  | _ => cases e

/-! ### what is walked -/
/-- the iterator J gives the items xs, whatever happens beside F -/
def ItOk (G : Gam) (F : Hp) (J : It) (xs : List D) : Prop :=
  ∀ F1 H1, Le F F1 → Le F1 H1 → ∀ i, (∀ d, xs[i]? = some d → J.go i H1 ∧ ∀ x H2, J.yld i H1 x H2 → (H2 = H1 ∧ Rep G F1 d x) ∨ ∃ p o, H1 p = none ∧ H2 = upd H1 p o ∧ Rep G (upd F1 p o) d x) ∧ (xs.length ≤ i → J.stop i H1)
def TIok (G : Gam) (Pn : Nat → V) (W : WX) (wi : TI) (fi : Rho → R (List D × Rho)) : Prop :=
  ∀ (F : Hp) (ρ : Rho) (σ : L2.St) (H : Hp) (A : Nat → List Addr) (Q : It → Hp → Prop), Sim G Pn F ρ σ H A →
    (∀ xs ρ', fi ρ = .ok (xs, ρ') → ∀ J F' H' A', Step F H A F' H' A' → Sim G Pn F' ρ' σ H' A' → ItOk G F' J xs → xs.length ≤ sizeLine → Q J H') →
    (∀ c w ρ', fi ρ = .exc c w ρ' → ExcOk G Pn W F H A c w ρ') → fi ρ ≠ .bad → wi σ H Q
def asL (ρ : Rho) : D → R (List D × Rho)
  | .lst xs => .ok (xs, ρ)
  | _ => .bad
def iLst (f : Rho → R (D × Rho)) : Rho → R (List D × Rho) := fun ρ => (f ρ).bind fun p => asL p.2 p.1
theorem ti_list {t : TE} {f : Rho → R (D × Rho)} (h : TEok G Pn W t f) : TIok G Pn W (iList G.K t) (iLst f) := by
  intro F ρ σ H A Q s ok ex nb
  refine h F ρ σ H A _ s (fun x ρ1 e1 v F1 H1 A1 s1 S1 r1 => ?_) (fun c w ρ1 e1 => ex c w ρ1 (R.bind_exc e1)) (R.bind_bad nb)
  have E1 : iLst f ρ = asL ρ1 x := R.bind_ok e1
  rw [E1] at ok nb
  cases x with
  | lst xs =>
    unfold Rep at r1
    obtain ⟨a, vs, rfl, ha, hz, rl⟩ := r1
    refine ⟨a, rfl, ⟨vs, SqL.of (S1.sub _ _ ha)⟩, ok xs ρ1 rfl _ F1 H1 A1 s1 S1 (fun F2 H2 l1 l2 i => ⟨fun d hd => ?_, fun hi => ?_⟩) (by rw [rl.length]; exact hz)⟩
    · obtain ⟨u, hu, ru⟩ := rl.get' hd
      have q : SqL G.K H2 a vs := SqL.of (l2 _ _ (l1 _ _ ha))
      refine ⟨⟨vs, u, q, hu⟩, fun x H3 hy => .inl ⟨hy.1, ?_⟩⟩
      have := hy.2 vs q
      rw [hu] at this
      cases this
      exact Rep.mono l1 d ru
    · exact ⟨vs, SqL.of (l2 _ _ (l1 _ _ ha)), by rw [← rl.length]; exact hi⟩
  | _ => exact absurd rfl nb
def asT (ρ : Rho) : D → R (List D × Rho)
  | .tup xs => .ok (xs, ρ)
  | _ => .bad
def iTupD (f : Rho → R (D × Rho)) : Rho → R (List D × Rho) := fun ρ => (f ρ).bind fun p => asT p.2 p.1
theorem ti_tup {t : TE} {f : Rho → R (D × Rho)} (h : TEok G Pn W t f) : TIok G Pn W (iTup G.K t) (iTupD f) := by
  intro F ρ σ H A Q s ok ex nb
  refine h F ρ σ H A _ s (fun x ρ1 e1 v F1 H1 A1 s1 S1 r1 => ?_) (fun c w ρ1 e1 => ex c w ρ1 (R.bind_exc e1)) (R.bind_bad nb)
  have E1 : iTupD f ρ = asT ρ1 x := R.bind_ok e1
  rw [E1] at ok nb
  cases x with
  | tup xs =>
    unfold Rep at r1
    obtain ⟨a, vs, rfl, ha, hz, rl⟩ := r1
    refine ⟨a, rfl, ⟨vs, SqT.of (S1.sub _ _ ha)⟩, ok xs ρ1 rfl _ F1 H1 A1 s1 S1 (fun F2 H2 l1 l2 i => ⟨fun d hd => ?_, fun hi => ?_⟩) (by rw [rl.length]; exact hz)⟩
    · obtain ⟨u, hu, ru⟩ := rl.get' hd
      have q : SqT G.K H2 a vs := SqT.of (l2 _ _ (l1 _ _ ha))
      refine ⟨⟨vs, u, q, hu⟩, fun x H3 hy => .inl ⟨hy.1, ?_⟩⟩
      have := hy.2 vs q
      rw [hu] at this
      cases this
      exact Rep.mono l1 d ru
    · exact ⟨vs, SqT.of (l2 _ _ (l1 _ _ ha)), by rw [← rl.length]; exact hi⟩
  | _ => exact absurd rfl nb
/-- the most turns of a range that are served -/
def rgMost : Nat := 16777216
theorem rgMost_eq : rgMost = sizeLine := by rw [sizeLine_eq]; rfl
def rgD (lo hi : Int) : List D := (List.range (hi - lo).toNat).map fun i => D.int (lo + (i : Nat))
theorem rgD_get {lo hi : Int} {i : Nat} {d : D} (h : (rgD lo hi)[i]? = some d) : i < (hi - lo).toNat ∧ d = .int (lo + (i : Nat)) := by
  unfold rgD at h
  rw [List.getElem?_map] at h
  by_cases hi' : i < (hi - lo).toNat
  · rw [List.getElem?_range hi'] at h
    exact ⟨hi', (Option.some.inj h).symm⟩
  · rw [List.getElem?_eq_none (by rw [List.length_range]; omega)] at h
    cases h
theorem rgD_length {lo hi : Int} : (rgD lo hi).length = (hi - lo).toNat := by unfold rgD; rw [List.length_map, List.length_range]
theorem itr_ok {F : Hp} {lo hi : Int} : ItOk G F (Itr lo (hi - lo).toNat) (rgD lo hi) := by
  intro F1 H1 l1 l2 i
  refine ⟨fun d hd => ?_, fun h => ?_⟩
  · obtain ⟨h1, h2⟩ := rgD_get hd
    subst h2
    refine ⟨h1, fun x H2 hy => .inl ⟨hy.1, ?_⟩⟩
    unfold Rep
    exact hy.2
  · rw [rgD_length] at h
    exact h
/-- a truth value that nothing unfolds -/
def cdec (p : Prop) : Bool := @decide p (Classical.propDecidable p)
theorem cdec_eq {p : Prop} : (cdec p = true) = p := propext (Iff.intro (fun h => @of_decide_eq_true p (Classical.propDecidable p) h) (fun h => @decide_eq_true p (Classical.propDecidable p) h))
theorem cdec_ne {p : Prop} : (cdec p = false) = ¬ p := by
  refine propext (Iff.intro (fun h k => ?_) (fun h => ?_))
  · rw [show cdec p = true by rw [cdec_eq]; exact k] at h; cases h
  · cases q : cdec p with
    | false => rfl
    | true => rw [cdec_eq] at q; exact absurd q h
theorem cdec_dec {p : Prop} [Decidable p] : cdec p = decide p := by
  by_cases h : p
  · rw [show cdec p = true by rw [cdec_eq]; exact h, decide_eq_true h]
  · rw [show cdec p = false by rw [cdec_ne]; exact h, decide_eq_false h]
def rgOk (lo hi : Int) : Bool := cdec (-(2 ^ 62) ≤ lo ∧ lo < 2 ^ 62 ∧ -(2 ^ 62) ≤ hi ∧ hi < 2 ^ 62 ∧ hi - lo ≤ 16777216)
theorem rgOk_of {lo hi : Int} (h : rgOk lo hi = true) : -(2 ^ 62) ≤ lo ∧ lo < 2 ^ 62 ∧ -(2 ^ 62) ≤ hi ∧ hi < 2 ^ 62 ∧ (hi - lo).toNat ≤ 16777216 := by
  unfold rgOk at h
  rw [cdec_eq] at h
  exact ⟨h.1, h.2.1, h.2.2.1, h.2.2.2.1, by have := h.2.2.2.2; omega⟩
def asRg (ρ : Rho) : List D → R (List D × Rho)
  | [.int n] => if rgOk 0 n = true then .ok (rgD 0 n, ρ) else .bad
  | [.int a, .int b] => if rgOk a b = true then .ok (rgD a b, ρ) else .bad
  | _ => .bad
def iRg (f : Rho → R (List D × Rho)) : Rho → R (List D × Rho) := fun ρ => (f ρ).bind fun p => asRg p.2 p.1
theorem rep_int {F : Hp} {i : Int} {v : V} (h : Rep G F (.int i) v) : v = .int i := by unfold Rep at h; exact h
theorem repl_one {F : Hp} {d : D} {vs : List V} (h : RepL G F [d] vs) : ∃ v, vs = [v] ∧ Rep G F d v := by
  unfold RepL at h
  obtain ⟨v, vr, rfl, r, h⟩ := h
  unfold RepL at h
  subst h
  exact ⟨v, rfl, r⟩
theorem repl_two {F : Hp} {d e : D} {vs : List V} (h : RepL G F [d, e] vs) : ∃ v u, vs = [v, u] ∧ Rep G F d v ∧ Rep G F e u := by
  unfold RepL at h
  obtain ⟨v, vr, rfl, r, h⟩ := h
  obtain ⟨u, rfl, r2⟩ := repl_one h
  exact ⟨v, u, rfl, r, r2⟩
theorem ti_rg1 {t : TA} {f : Rho → R (D × Rho)} (h : TAok G Pn W t (aCons f aNil)) : TIok G Pn W (iRng1 t) (iRg (aCons f aNil)) := by
  intro F ρ σ H A Q s ok ex nb
  refine h F ρ σ H A _ s (fun xs ρ1 e1 vs F1 H1 A1 s1 S1 r1 => ?_) (fun c w ρ1 e1 => ex c w ρ1 (R.bind_exc e1)) (R.bind_bad nb)
  have E1 : iRg (aCons f aNil) ρ = asRg ρ1 xs := R.bind_ok e1
  rw [E1] at ok nb
  -- one item
  obtain ⟨d, rfl⟩ : ∃ d, xs = [d] := by
    unfold aCons at e1
    cases q : f ρ with
    | ok p => rw [q] at e1; cases e1; exact ⟨_, rfl⟩
    | exc c w r => rw [q] at e1; cases e1
    | bad => rw [q] at e1; cases e1
  obtain ⟨v, rfl, r⟩ := repl_one r1
  cases d with
  | int n =>
    have ev := rep_int r
    subst ev
    rw [show asRg ρ1 [D.int n] = if rgOk 0 n = true then .ok (rgD 0 n, ρ1) else .bad from rfl] at ok nb
    by_cases g : rgOk 0 n = true
    · rw [if_pos g] at ok
      obtain ⟨g1, g2, g3, g4, g5⟩ := rgOk_of g
      refine ⟨n, rfl, g3, g4, ?_⟩
      have := ok _ ρ1 rfl (Itr 0 (n - 0).toNat) F1 H1 A1 s1 S1 itr_ok (by rw [rgD_length, sizeLine_eq]; exact g5)
      rw [show n - 0 = n by omega] at this
      exact this
    · rw [if_neg g] at nb; exact absurd rfl nb
  | _ => exact absurd rfl nb
theorem ti_rg2 {t : TA} {f g : Rho → R (D × Rho)} (h : TAok G Pn W t (aCons f (aCons g aNil))) : TIok G Pn W (iRng2 t) (iRg (aCons f (aCons g aNil))) := by
  intro F ρ σ H A Q s ok ex nb
  refine h F ρ σ H A _ s (fun xs ρ1 e1 vs F1 H1 A1 s1 S1 r1 => ?_) (fun c w ρ1 e1 => ex c w ρ1 (R.bind_exc e1)) (R.bind_bad nb)
  have E1 : iRg (aCons f (aCons g aNil)) ρ = asRg ρ1 xs := R.bind_ok e1
  rw [E1] at ok nb
  obtain ⟨d, d', rfl⟩ : ∃ d d', xs = [d, d'] := by
    unfold aCons at e1
    cases q : f ρ with
    | ok p =>
      rw [q] at e1
      cases q2 : g p.2 with
      | ok p2 => simp only [R.bind, aNil] at e1; rw [q2] at e1; cases e1; exact ⟨_, _, rfl⟩
      | exc c w r => simp only [R.bind, aNil] at e1; rw [q2] at e1; cases e1
      | bad => simp only [R.bind, aNil] at e1; rw [q2] at e1; cases e1
    | exc c w r => rw [q] at e1; cases e1
    | bad => rw [q] at e1; cases e1
  obtain ⟨v, u, rfl, r, r'⟩ := repl_two r1
  cases d with
  | int n =>
    have ev := rep_int r
    subst ev
    cases d' with
    | int m =>
      have ev := rep_int r'
      subst ev
      rw [show asRg ρ1 [D.int n, D.int m] = if rgOk n m = true then .ok (rgD n m, ρ1) else .bad from rfl] at ok nb
      by_cases gg : rgOk n m = true
      · rw [if_pos gg] at ok
        obtain ⟨g1, g2, g3, g4, g5⟩ := rgOk_of gg
        exact ⟨n, m, rfl, ⟨g1, g2, g3, g4⟩, ok _ ρ1 rfl (Itr n (m - n).toNat) F1 H1 A1 s1 S1 itr_ok (by rw [rgD_length, sizeLine_eq]; exact g5)⟩
      · rw [if_neg gg] at nb; exact absurd rfl nb
    | _ => exact absurd rfl nb
  | _ => exact absurd rfl nb

theorem Step.back {F H F1 H1 : Hp} {A A1 : Nat → List Addr} (s1 : Step F H A F1 H1 A1) {a : Addr} (h : (∃ j, a ∈ A1 j) ∨ H1 a = none) : (∃ j, a ∈ A j) ∨ H a = none := by
  rcases h with ⟨i, z⟩ | z
  · exact s1.own i a z
  · cases q : H a with
    | none => exact .inr rfl
    | some u =>
      refine .inl (Classical.byContradiction fun n => ?_)
      have := s1.keep a u q fun i hi => n ⟨i, hi⟩
      rw [z] at this; cases this
theorem ra_mono {F F' : Hp} {ds : List D} {vs : List V} (e : Le F F') (h : RepL G F ds vs) : RepL G F' ds vs := RepL.mono e ds h
/-! ### for -/
def forD (g : D → Rho → Option Rho) (b : Rho → S) : List D → Rho → S
  | [], ρ => .nx ρ
  | x :: xs, ρ => match g x ρ with
    | some ρ1 => (b ρ1).turn (forD g b xs)
    | none => .bad
def sFor (fi : Rho → R (List D × Rho)) (g : D → Rho → Option Rho) (b : Rho → S) : Rho → S := fun ρ => (fi ρ).thn fun p => forD g b p.1 p.2
theorem Sim.yield {F H H2 : Hp} {ρ : Rho} {σ : L2.St} {A : Nat → List Addr} {d : D} {x : V} (s : Sim G Pn F ρ σ H A) (h : (H2 = H ∧ Rep G F d x) ∨ ∃ p o, H p = none ∧ H2 = upd H p o ∧ Rep G (upd F p o) d x) :
    ∃ F2, Step F H A F2 H2 A ∧ Sim G Pn F2 ρ σ H2 A ∧ Rep G F2 d x := by
  rcases h with ⟨rfl, r⟩ | ⟨p, o, hp, rfl, r⟩
  · exact ⟨F, Step.refl F _ A, s, r⟩
  · obtain ⟨S2, s2⟩ := s.new (o := o) hp
    exact ⟨upd F p o, s2, S2, r⟩
theorem ts_for {wi : TI} {g : TG} {tb : TS} {js : List Nat} {fi : Rho → R (List D × Rho)} {fg : D → Rho → Option Rho} {b : Rho → S} (hi : TIok G Pn W wi fi) (hg : TGok G Pn g js fg) (hb : TSok G Pn W tb b) : TSok G Pn W (tFor wi g tb) (sFor fi fg b) := by
  intro F ρ σ H A E s nx bk ct rt ex nb
  refine hi F ρ σ H A _ s (fun xs ρ1 e1 J F1 H1 A1 s1 S1 it hz => ?_) (fun c w ρ1 e1 => ex c w ρ1 (R.thn_exc e1)) (R.thn_bad nb)
  have E1 : sFor fi fg b ρ = forD fg b xs ρ1 := R.thn_ok e1
  rw [E1] at nx bk ct rt ex nb
  refine ⟨fun i m σ2 H2 => m = xs.length - i ∧ i ≤ xs.length ∧ ∃ ρ2 F2 A2, forD fg b (xs.drop i) ρ2 = forD fg b xs ρ1 ∧ Step F1 H1 A1 F2 H2 A2 ∧ Sim G Pn F2 ρ2 σ2 H2 A2, ⟨xs.length, by simp, Nat.zero_le _, ρ1, F1, A1, rfl, Step.refl F1 H1 A1, S1⟩, ?_⟩
  rintro i m σ2 H2 ⟨rfl, hi', ρ2, F2, A2, e2, s2, S2⟩
  by_cases hlt : i < xs.length
  · have hd : xs.drop i = xs[i] :: xs.drop (i + 1) := List.drop_eq_getElem_cons hlt
    rw [hd] at e2
    obtain ⟨go, yl⟩ := (it F2 H2 s2.le S2.sub i).1 xs[i] (List.getElem?_eq_getElem hlt)
    refine .inr ⟨go, fun σ3 H3 => ∃ ρ3 F3 A3, forD fg b (xs.drop (i + 1)) ρ3 = forD fg b xs ρ1 ∧ Step F1 H1 A1 F3 H3 A3 ∧ Sim G Pn F3 ρ3 σ3 H3 A3, fun σ3 H3 h3 => ⟨xs.length - (i + 1), by omega, rfl, hlt, h3⟩, fun x H3 hy => ?_⟩
    obtain ⟨F3, s3, S3, r3⟩ := S2.yield (F := F2) (yl x H3 hy)
    have un : forD fg b (xs[i] :: xs.drop (i + 1)) ρ2 = (match fg xs[i] ρ2 with
      | some ρ1 => (b ρ1).turn (forD fg b (xs.drop (i + 1)))
      | none => .bad) := rfl
    rw [un] at e2
    cases q : fg xs[i] ρ2 with
    | none => rw [q] at e2; exact absurd e2.symm nb
    | some ρ3 =>
      rw [q] at e2
      have e2 : (b ρ3).turn (forD fg b (xs.drop (i + 1))) = forD fg b xs ρ1 := e2
      refine hg F3 ρ2 σ2 H3 A2 xs[i] x ρ3 _ S3 r3 q fun σ4 A4 s4 S4 l4 n4 => ?_
      have s24 := (s2.trans s3).trans s4
      rw [← e2] at nx bk ct rt ex nb
      refine hb.step s24 S4 (fun ρ5 e5 σ5 F5 H5 A5 s5 S5 => ?_) (fun ρ5 e5 σ5 F5 H5 A5 s5 S5 => ?_) (fun ρ5 e5 σ5 F5 H5 A5 s5 S5 => ?_) (fun k d ρ5 e5 v σ5 F5 H5 A5 l s5 S5 T5 hl => rt k d ρ5 (by rw [e5]; rfl) v σ5 F5 H5 A5 l (s1.trans s5) S5 T5 fun a ha => s1.back (hl a ha)) (fun c w ρ5 e5 => (ex c w ρ5 (by rw [e5]; rfl)).step s1) (fun z => nb (by rw [z]; rfl))
      · exact ⟨ρ5, F5, A5, by rw [← e2, e5]; rfl, s5, S5⟩
      · exact nx ρ5 (by rw [e5]; rfl) σ5 F5 H5 A5 (s1.trans s5) S5
      · exact ⟨ρ5, F5, A5, by rw [← e2, e5]; rfl, s5, S5⟩
  · have ei : i = xs.length := by omega
    subst ei
    rw [List.drop_length] at e2
    exact .inl ⟨(it F2 H2 s2.le S2.sub xs.length).2 (Nat.le_refl _), nx ρ2 e2.symm σ2 F2 H2 A2 (s1.trans s2) S2⟩

/-! ### comprehensions -/
def wipeR (ρ : Rho) : List Nat → Rho
  | [] => ρ
  | v :: vs => (wipeR ρ vs).set v .no
theorem wipeR_length (ρ : Rho) : ∀ vs, (wipeR ρ vs).length = ρ.length
  | [] => rfl
  | v :: vs => by unfold wipeR; rw [List.length_set, wipeR_length ρ vs]
def wipeA (A : Nat → List Addr) : List Nat → Nat → List Addr
  | [] => A
  | v :: vs => updA (wipeA A vs) v []
theorem Sim.wipe {F H : Hp} {ρ : Rho} {σ : L2.St} {A : Nat → List Addr} (s : Sim G Pn F ρ σ H A) : ∀ vs : List Nat, Sim G Pn F (wipeR ρ vs) σ H (wipeA A vs)
  | [] => s
  | v :: vs => (s.wipe vs).forget v
theorem Step.wipe {F H : Hp} {A : Nat → List Addr} : ∀ vs : List Nat, Step F H A F H (wipeA A vs)
  | [] => Step.refl F H A
  | v :: vs => (Step.wipe vs).trans Step.drop
theorem wipeR_no {ρ : Rho} {i : Nat} : ∀ {vs : List Nat}, i ∈ vs → i < ρ.length → (wipeR ρ vs)[i]? = some .no
  | v :: vs, h, hi => by
    unfold wipeR
    by_cases q : v = i
    · subst q
      rw [List.getElem?_set_self (by rw [wipeR_length]; exact hi)]
    · rw [List.getElem?_set_ne q]
      rcases List.mem_cons.mp h with z | z
      · exact absurd z.symm q
      · exact wipeR_no z hi
/-- a state's slots that are `no` may hold anything -/
theorem Sim.slots {F H : Hp} {ρ : Rho} {σ σ' : L2.St} {A : Nat → List Addr} (s : Sim G Pn F ρ σ H A) (hl : σ'.length = σ.length) (h : ∀ i : Nat, ρ[i]? = some Sl.no ∨ σ'[i]? = σ[i]?) : Sim G Pn F ρ σ' H A := by
  refine ⟨s.sub, s.len.trans hl.symm, fun i => ?_, s.nf, s.nd, s.dj⟩
  rcases h i with q | q
  · have z := s.sl i
    rw [q] at z ⊢
    exact z
  · rw [q]; exact s.sl i
def compD (fg : D → Rho → Option Rho) (ft : Rho → R (Bool × Rho)) (fe : Rho → R (D × Rho)) (vs : List Nat) : List D → List D → Rho → R (List D × Rho)
  | [], acc, ρ => .ok (acc, ρ)
  | x :: xs, acc, ρ => match fg x ρ with
    | none => .bad
    | some ρ1 => (ft ρ1).bind fun p => if p.1 = true then (fe p.2).bind fun q => compD fg ft fe vs xs (acc ++ [q.1]) (wipeR q.2 vs) else compD fg ft fe vs xs acc (wipeR p.2 vs)
/-- what raises within is refused -/
def R.noExc {α : Type} (r : R α) : R α := match r with
  | .exc _ _ _ => .bad
  | r => r
def dComp (vs : List Nat) (fi : Rho → R (List D × Rho)) (fg : D → Rho → Option Rho) (ft : Rho → R (Bool × Rho)) (fe : Rho → R (D × Rho)) : Rho → R (Nat × D × Rho) := fun ρ =>
  (fi ρ).bind fun p => (compD fg ft fe vs p.1 [] (wipeR p.2 vs)).noExc.bind fun q => .ok (1, .lst q.1, q.2)
theorem compD_len {fg : D → Rho → Option Rho} {ft : Rho → R (Bool × Rho)} {fe : Rho → R (D × Rho)} {vs : List Nat} : ∀ (xs acc : List D) (ρ : Rho) (ys : List D) (ρ' : Rho), compD fg ft fe vs xs acc ρ = .ok (ys, ρ') → ys.length ≤ acc.length + xs.length
  | [], acc, ρ, ys, ρ', h => by
    unfold compD at h
    cases h
    exact Nat.le_refl _
  | x :: xs, acc, ρ, ys, ρ', h => by
    unfold compD at h
    split at h
    · cases h
    · rename_i ρ1 e
      cases q : ft ρ1 with
      | bad => rw [q] at h; cases h
      | exc c w r => rw [q] at h; cases h
      | ok p =>
        rw [q] at h
        simp only [R.bind] at h
        split at h
        · cases q2 : fe p.2 with
          | bad => rw [q2] at h; cases h
          | exc c w r => rw [q2] at h; cases h
          | ok p2 =>
            rw [q2] at h
            have := compD_len xs _ _ ys ρ' h
            rw [List.length_append, List.length_singleton] at this
            rw [List.length_cons]; omega
        · have := compD_len xs _ _ ys ρ' h
          rw [List.length_cons]; omega
/-- the blocks' wish: nothing is let out -/
abbrev W0 : WX := fun _ _ _ _ => False
theorem to_comp {wi : TI} {g : TG} {tt : TT} {te : TE} {js vs : List Nat} {fi : Rho → R (List D × Rho)} {fg : D → Rho → Option Rho} {ft : Rho → R (Bool × Rho)} {fe : Rho → R (D × Rho)} (hi : TIok G Pn W wi fi) (hg : TGok G Pn g js fg) (hj : ∀ j ∈ js, j ∈ vs)
    (ht : TTok G Pn W0 tt ft) (he : TEok G Pn W0 te fe) : TOok G Pn W (tLc wi g tt te vs) (dComp vs fi fg ft fe) := by
  intro F ρ σ H A Q s ok ex nb
  refine hi F ρ σ H A _ s (fun xs ρ1 e1 J F1 H1 A1 s1 S1 it hz => ?_) (fun c w ρ1 e1 => ex c w ρ1 (R.bind_exc e1)) (R.bind_bad nb)
  have E1 : dComp vs fi fg ft fe ρ = (compD fg ft fe vs xs [] (wipeR ρ1 vs)).noExc.bind fun q => .ok (1, .lst q.1, q.2) := R.bind_ok e1
  rw [E1] at ok ex nb
  intro L hL
  -- the run, as it goes on from turn i with acc made
  have hres : ∃ ys ρe, compD fg ft fe vs xs [] (wipeR ρ1 vs) = .ok (ys, ρe) := by
    cases q : compD fg ft fe vs xs [] (wipeR ρ1 vs) with
    | ok p => exact ⟨p.1, p.2, rfl⟩
    | exc c w r => rw [q] at nb; exact absurd rfl nb
    | bad => rw [q] at nb; exact absurd rfl nb
  obtain ⟨ys, ρe, hres⟩ := hres
  rw [hres] at ok
  have hys := compD_len xs [] _ ys ρe hres
  have S1w := S1.wipe vs
  have hσ : ∀ i : Nat, (wipeR ρ1 vs)[i]? = some Sl.no ∨ (L2.wipe σ vs)[i]? = σ[i]? := fun i => by
    by_cases q : i ∈ vs
    · by_cases hlt : i < ρ1.length
      · exact .inl (wipeR_no q hlt)
      · refine .inr ?_
        rw [List.getElem?_eq_none (by rw [L2.wipe_length, ← S1.len]; omega), List.getElem?_eq_none (by rw [← S1.len]; omega)]
    · exact .inr (L2.wipe_out q)
  have S1x : Sim G Pn F1 (wipeR ρ1 vs) (L2.wipe σ vs) H1 (wipeA A1 vs) := S1w.slots (L2.wipe_length σ vs) hσ
  obtain ⟨S2x, s2x⟩ := S1x.newO (o := .lst []) hL
  have nL := S1x.apart hL
  refine ⟨fun i m H2 => m = xs.length - i ∧ i ≤ xs.length ∧ ∃ acc us ρ2 F2 A2, compD fg ft fe vs (xs.drop i) acc ρ2 = .ok (ys, ρe) ∧ Step F1 H1 A1 F2 H2 A2 ∧ Sim G Pn F2 ρ2 (L2.wipe σ vs) H2 A2 ∧ H2 L = some (.lst us) ∧ RepL G F2 acc us ∧ acc.length ≤ i ∧ F2 L = none ∧ (∀ i, L ∉ A2 i) ∧ (∀ j ∈ vs, j < ρ2.length → ρ2[j]? = some .no),
    ⟨xs.length, by simp, Nat.zero_le _, [], [], _, F1, _, hres, (Step.wipe vs).trans s2x, S2x, upd_same, RepL.nil, Nat.le_refl _, ?_, nL, fun j hj' hlt => wipeR_no hj' (by rw [wipeR_length] at hlt; exact hlt)⟩, ?_⟩
  · cases q : F1 L with
    | none => rfl
    | some u => rw [S1.sub L u q] at hL; cases hL
  rintro i m H2 ⟨rfl, hi', acc, us, ρ2, F2, A2, e2, s2, S2, hLu, ra, hal, fL, aL, hno⟩
  by_cases hlt : i < xs.length
  · have hd : xs.drop i = xs[i] :: xs.drop (i + 1) := List.drop_eq_getElem_cons hlt
    rw [hd] at e2
    obtain ⟨go, yl⟩ := (it F2 H2 s2.le S2.sub i).1 xs[i] (List.getElem?_eq_getElem hlt)
    refine .inr ⟨go, fun H3 => ∃ acc us ρ2 F2 A2, compD fg ft fe vs (xs.drop (i + 1)) acc ρ2 = .ok (ys, ρe) ∧ Step F1 H1 A1 F2 H3 A2 ∧ Sim G Pn F2 ρ2 (L2.wipe σ vs) H3 A2 ∧ H3 L = some (.lst us) ∧ RepL G F2 acc us ∧ acc.length ≤ i + 1 ∧ F2 L = none ∧ (∀ i, L ∉ A2 i) ∧ (∀ j ∈ vs, j < ρ2.length → ρ2[j]? = some .no),
      fun H3 h3 => ⟨xs.length - (i + 1), by omega, rfl, hlt, h3⟩, fun x H3 hy => ?_⟩
    obtain ⟨F3, s3, S3, r3⟩ := S2.yield (F := F2) (yl x H3 hy)
    unfold compD at e2
    cases q : fg xs[i] ρ2 with
    | none => rw [q] at e2; cases e2
    | some ρ3 =>
      rw [q] at e2
      have e2 : ((ft ρ3).bind fun p => if p.1 = true then (fe p.2).bind fun q => compD fg ft fe vs (xs.drop (i + 1)) (acc ++ [q.1]) (wipeR q.2 vs) else compD fg ft fe vs (xs.drop (i + 1)) acc (wipeR p.2 vs)) = .ok (ys, ρe) := e2
      refine hg F3 ρ2 _ H3 A2 xs[i] x ρ3 _ S3 r3 q fun σ4 A4 s4 S4 l4 n4 => ?_
      have wσ : L2.wipe σ4 vs = L2.wipe σ vs := by
        refine List.ext_getElem? fun j => ?_
        by_cases hj' : j ∈ vs
        · by_cases hb : j < σ.length
          · have none_at : ∀ τ : L2.St, τ.length = σ.length → (L2.wipe τ vs)[j]? = some none := fun τ hτ => by
              have hb' : j < (L2.wipe τ vs).length := by rw [L2.wipe_length, hτ]; exact hb
              cases q : (L2.wipe τ vs)[j]? with
              | none => rw [List.getElem?_eq_none_iff] at q; omega
              | some o =>
                cases o with
                | none => rfl
                | some v => exact absurd hj' (L2.wipe_some q).2
            rw [none_at σ4 (l4.trans (L2.wipe_length σ vs)), none_at σ rfl]
          · rw [List.getElem?_eq_none (by rw [L2.wipe_length, l4, L2.wipe_length]; omega), List.getElem?_eq_none (by rw [L2.wipe_length]; omega)]
        · rw [L2.wipe_out hj', n4 j (fun z => hj' (hj j z))]
      refine ⟨wσ, ?_⟩
      have s24 := (s2.trans s3).trans s4
      have hL3 : H3 L = some (.lst us) := s3.keep L _ hLu aL
      have fL3 : F3 L = none := by
        cases z : F3 L with
        | none => rfl
        | some u =>
          rcases s3.fre L u z with w | ⟨j, w⟩ | w
          · rw [fL] at w; cases w
          · exact absurd w (aL j)
          · rw [hLu] at w; cases w
      have aL4 : ∀ j, L ∉ A4 j := fun j hjm => by
        rcases s4.own j L hjm with ⟨k, w⟩ | w
        · exact aL k w
        · rw [hL3] at w; cases w
      refine ht F3 ρ3 σ4 H3 A4 _ S4 (fun b ρ5 e5 F5 H5 A5 s5 S5 => ?_) (fun c w ρ5 e5 => absurd (by rw [e5] at e2; cases e2) (fun z : False => z)) (fun z => by rw [z] at e2; cases e2)
      rw [e5] at e2
      have e2 : (if b = true then (fe ρ5).bind fun q => compD fg ft fe vs (xs.drop (i + 1)) (acc ++ [q.1]) (wipeR q.2 vs) else compD fg ft fe vs (xs.drop (i + 1)) acc (wipeR ρ5 vs)) = .ok (ys, ρe) := e2
      -- what a turn's end gives
      have keepL : ∀ {F6 H6 : Hp} {A6 : Nat → List Addr}, Step F3 H3 A4 F6 H6 A6 → H6 L = some (.lst us) ∧ F6 L = none ∧ ∀ j, L ∉ A6 j := fun {F6 H6 A6} s6 => by
        refine ⟨s6.keep L _ hL3 aL4, ?_, fun j hjm => ?_⟩
        · cases z : F6 L with
          | none => rfl
          | some u =>
            rcases s6.fre L u z with w | ⟨j, w⟩ | w
            · rw [fL3] at w; cases w
            · exact absurd w (aL4 j)
            · rw [hL3] at w; cases w
        · rcases s6.own j L hjm with ⟨k, w⟩ | w
          · exact aL4 k w
          · rw [hL3] at w; cases w
      have backσ : ∀ {F6 H6 : Hp} {ρ6 : Rho} {A6 : Nat → List Addr}, Sim G Pn F6 ρ6 σ4 H6 A6 → Sim G Pn F6 (wipeR ρ6 vs) (L2.wipe σ vs) H6 (wipeA A6 vs) := fun {F6 H6 ρ6 A6} S6 => by
        refine (S6.wipe vs).slots (by rw [L2.wipe_length, l4, L2.wipe_length]) fun j => ?_
        by_cases hj' : j ∈ vs
        · by_cases hb : j < ρ6.length
          · exact .inl (wipeR_no hj' hb)
          · refine .inr ?_
            rw [List.getElem?_eq_none (by rw [L2.wipe_length]; have := S6.len; have := l4; rw [L2.wipe_length] at this; omega), List.getElem?_eq_none (by have := S6.len; omega)]
        · refine .inr ?_
          rw [n4 j (fun z => hj' (hj j z))]
      have wipeNo : ∀ {ρ6 : Rho}, ∀ j ∈ vs, j < (wipeR ρ6 vs).length → (wipeR ρ6 vs)[j]? = some .no := fun {ρ6} j hj' hb => wipeR_no hj' (by rw [wipeR_length] at hb; exact hb)
      have aW : ∀ {A6 : Nat → List Addr}, (∀ j, L ∉ A6 j) → ∀ j, L ∉ wipeA A6 vs j := fun {A6} h6 => by
        have go : ∀ (vs : List Nat) (j : Nat), L ∉ wipeA A6 vs j := by
          intro vs
          induction vs with
          | nil => exact h6
          | cons v vs ih =>
            intro j hjm
            rcases updA_mem hjm with ⟨_, w⟩ | ⟨_, w⟩
            · cases w
            · exact ih j w
        exact go vs
      cases b with
      | false =>
        rw [if_neg Bool.false_ne_true] at e2 ⊢
        obtain ⟨k1, k2, k3⟩ := keepL s5
        exact ⟨acc, us, wipeR ρ5 vs, F5, _, e2, (s24.trans s5).trans (Step.wipe vs), backσ S5, k1, ra_mono (s3.le.trans s5.le) ra, by omega, k2, aW k3, wipeNo⟩
      | true =>
        rw [if_pos rfl] at e2 ⊢
        refine he F5 ρ5 σ4 H5 A5 _ S5 (fun y ρ6 e6 u F6 H6 A6 s6 S6 r6 => ?_) (fun c w ρ6 e6 => absurd (by rw [e6] at e2; cases e2) (fun z : False => z)) (fun z => by rw [z] at e2; cases e2)
        rw [e6] at e2
        have e2 : compD fg ft fe vs (xs.drop (i + 1)) (acc ++ [y]) (wipeR ρ6 vs) = .ok (ys, ρe) := e2
        obtain ⟨k1, k2, k3⟩ := keepL (s5.trans s6)
        have ral : us.length ≤ i := by rw [← ra.length]; exact hal
        refine ⟨us, k1, by have := sizeLine_eq; omega, acc ++ [y], us ++ [u], wipeR ρ6 vs, F6, wipeA A6 vs, e2, ?_, ?_, upd_same, (ra_mono (s3.le.trans (s5.le.trans s6.le)) ra).append (RepL.one r6), by rw [List.length_append, List.length_singleton]; omega, k2, aW k3, wipeNo⟩
        · -- the list is written
          have z := (s24.trans (s5.trans s6)).trans (Step.wipe (F := F6) (H := H6) (A := A6) vs)
          refine ⟨z.le, fun a o ea na => ?_, z.fre, z.own⟩
          by_cases q : a = L
          · rw [q, hL] at ea; cases ea
          · rw [upd_ne q]; exact z.keep a o ea na
        · have z := backσ S6
          refine ⟨fun a o ea => ?_, z.len, fun j => ?_, z.nf, z.nd, z.dj⟩
          · rw [upd_ne (fun q => by rw [q, k2] at ea; cases ea)]; exact z.sub a o ea
          · exact (z.sl j).mono (Le.refl F6) fun a ha o ea => by rw [upd_ne (show a ≠ L from fun q => aW k3 j (by rw [← q]; exact ha))]; exact ea
  · have ei : i = xs.length := by omega
    subst ei
    rw [List.drop_length] at e2
    have e2 : R.ok (acc, ρ2) = R.ok (ys, ρe) := e2
    injection e2 with e2
    injection e2 with e3 e4
    subst e3
    subst e4
    refine .inl ⟨(it F2 H2 s2.le S2.sub xs.length).2 (Nat.le_refl _), ?_⟩
    have S2' : Sim G Pn F2 ρ2 σ H2 A2 := S2.slots (L2.wipe_length σ vs).symm fun j => by
      by_cases hj' : j ∈ vs
      · by_cases hb : j < ρ2.length
        · exact .inl (hno j hj' hb)
        · refine .inr ?_
          have := S2.len
          rw [L2.wipe_length] at this
          rw [List.getElem?_eq_none (by omega), List.getElem?_eq_none (by rw [L2.wipe_length]; omega)]
      · exact .inr (L2.wipe_out hj').symm
    have hlen : us.length ≤ sizeLine := by rw [← ra.length]; omega
    refine ok 1 _ _ rfl (.ref L) F2 H2 A2 [L] (s1.trans s2) S2' ⟨?_, fun a ha => ?_, fun a ha => ?_, by simp⟩ fun a ha => ?_
    · unfold Own
      exact .inr ⟨0, L, us, [], rfl, rfl, hLu, hlen, OwnL.zero.mpr ⟨ra, rfl⟩, rfl⟩
    · rw [List.mem_singleton.mp ha]; exact fL
    · rw [List.mem_singleton.mp ha]; exact aL
    · rw [List.mem_singleton.mp ha]
      cases z : H L with
      | none => exact .inr rfl
      | some u =>
        refine .inl (Classical.byContradiction fun n => ?_)
        have := s1.keep L u z fun j hjm => n ⟨j, hjm⟩
        rw [hL] at this; cases this
end
end DL
end
noncomputable section
set_option maxRecDepth 100000
set_option maxHeartbeats 400000
/-! ## DL5: defs, their promises, calls -/
namespace DL
open PySem PySem.Spec PyProof.Rows L2

/-! ### what a def gives -/
def fin0 (r : Nat) : S → O
  | .rt k d _ => if k = r ∨ r = 0 then .ok d else .bad
  | .nx _ => if r = 0 then .ok .non else .bad
  | .exc c w _ => .exc c w
  | _ => .bad
def initR (n : Nat) (ds : List D) : Rho := ds.map Sl.fro ++ List.replicate (n - ds.length) .no
def fn0 (n r : Nat) (f : Rho → S) : List D → O := fun ds => fin0 r (f (initR n ds))
/-- with a first argument that is changed in place -/
inductive O1 where
  | ok (d : D) (io : D) | exc (c : Nat) (w : D) | bad
def ioAt (k : Nat) (d : D) (ρ : Rho) : O1 := match ρ[(0 : Nat)]? with
  | some (.own true k' e) => if k' = k then .ok d e else .bad
  | _ => .bad
def fin1 (r k : Nat) : S → O1
  | .rt j d ρ => if j = r ∨ r = 0 then ioAt k d ρ else .bad
  | .nx ρ => if r = 0 then ioAt k .non ρ else .bad
  | .exc c w _ => .exc c w
  | _ => .bad
def initR1 (n k : Nat) (d : D) (ds : List D) : Rho := .own true k d :: (ds.map Sl.fro ++ List.replicate (n - 1 - ds.length) .no)
def fn1 (n r k : Nat) (f : Rho → S) : D → List D → O1 := fun d ds => fin1 r k (f (initR1 n k d ds))

/-! ### promises -/
structure Kept (F H F' H' : Hp) (l : List Addr) : Prop where
  le : Le F F'
  keep : ∀ a o, H a = some o → a ∉ l → H' a = some o
  sub : Le F' H'
  fre : ∀ a o, F' a = some o → F a = some o ∨ a ∈ l ∨ H a = none
structure Fresh (F' H : Hp) (l0 l : List Addr) : Prop where
  nf : ∀ a ∈ l, F' a = none
  fr : ∀ a ∈ l, a ∈ l0 ∨ H a = none
  nd : l.Nodup
def spec0 (G : Gam) (r ar : Nat) (Fn : List D → O) : Sp := fun vs H Q E => ∃ ds F, Le F H ∧ RepL G F ds vs ∧ vs.length = ar ∧ Fn ds ≠ .bad ∧
  (∀ d, Fn ds = .ok d → ∀ v F' H' l, Kept F H F' H' [] → Own G F' H' d r v l → Fresh F' H [] l → Q v H') ∧
  (∀ c w, Fn ds = .exc c w → ∀ dx v F' H', Kept F H F' H' [] → H' dx = some (.xd [(("what" : Str), v)]) → Rep G F' w v → E (.ref (G.cl c)) (some dx) H')
def spec1 (G : Gam) (r k ar : Nat) (Fn : D → List D → O1) : Sp := fun vs H Q E => ∃ v0 vr d0 dr F l0, vs = v0 :: vr ∧ Le F H ∧ Own G F H d0 k v0 l0 ∧ Fresh F H l0 l0 ∧ RepL G F dr vr ∧ vs.length = ar ∧ Fn d0 dr ≠ .bad ∧
  (∀ d e, Fn d0 dr = .ok d e → ∀ v F' H' l l', Kept F H F' H' l0 → Own G F' H' e k v0 l' → Fresh F' H l0 l' → Own G F' H' d r v l → Fresh F' H l0 l → (∀ a ∈ l, a ∉ l') → Q v H') ∧
  (∀ c w, Fn d0 dr = .exc c w → ∀ dx v F' H', Kept F H F' H' l0 → H' dx = some (.xd [(("what" : Str), v)]) → Rep G F' w v → E (.ref (G.cl c)) (some dx) H')

section
variable {G : Gam} {Pn : Nat → V} {W : WX}
theorem Sim.kept {F H F' H' : Hp} {ρ : Rho} {σ : L2.St} {A : Nat → List Addr} (s : Sim G Pn F ρ σ H A) (k : Kept F H F' H' []) : Sim G Pn F' ρ σ H' A ∧ Step F H A F' H' A := by
  have th : ∀ i a, a ∈ A i → ∃ u, H a = some u := fun i a ha => by
    cases q : H a with
    | some u => exact ⟨u, rfl⟩
    | none => exact absurd ha (s.apart q i)
  refine ⟨⟨k.sub, s.len, fun i => (s.sl i).mono k.le fun a ha o e => k.keep a o e (fun z => nomatch z), fun i a ha => ?_, s.nd, s.dj⟩, ⟨k.le, fun a o e _ => k.keep a o e (fun z => nomatch z), fun a o e => ?_, fun i a ha => .inl ⟨i, ha⟩⟩⟩
  · cases q : F' a with
    | none => rfl
    | some u =>
      rcases k.fre a u q with z | z | z
      · rw [s.nf i a ha] at z; cases z
      · cases z
      · obtain ⟨w, hw⟩ := th i a ha
        rw [hw] at z; cases z
  · rcases k.fre a o e with z | z | z
    · exact .inl z
    · cases z
    · exact .inr (.inr z)
/-- the state behind a call that changed what slot j owns -/
theorem Sim.kept1 {F H F' H' : Hp} {ρ : Rho} {σ : L2.St} {A : Nat → List Addr} (s : Sim G Pn F ρ σ H A) {j k : Nat} {io : Bool} {d e : D} {v : V} {l' : List Addr} (h : ρ[j]? = some (.own io k d)) (hv : σ[j]? = some (some v))
    (kp : Kept F H F' H' (A j)) (ow : Own G F' H' e k v l') (fr : Fresh F' H (A j) l') : Sim G Pn F' (ρ.set j (.own io k e)) σ H' (updA A j l') ∧ Step F H A F' H' (updA A j l') := by
  obtain ⟨v0, e0, p0, ow0⟩ := s.own h
  rw [hv] at e0
  cases e0
  have hj : j < ρ.length := (List.getElem?_eq_some_iff.mp h).1
  have th : ∀ i a, a ∈ A i → ∃ u, H a = some u := fun i a ha => by
    cases q : H a with
    | some u => exact ⟨u, rfl⟩
    | none => exact absurd ha (s.apart q i)
  refine ⟨⟨kp.sub, by rw [List.length_set]; exact s.len, fun i => ?_, fun i a ha => ?_, fun i => ?_, fun i i' a ha hb => ?_⟩, ⟨kp.le, fun a u e n => kp.keep a u e (n j), fun a u e => ?_, fun i a ha => ?_⟩⟩
  · by_cases q : i = j
    · subst q
      rw [List.getElem?_set_self hj, updA_same]
      exact ⟨v, hv, p0, ow⟩
    · rw [List.getElem?_set_ne (Ne.symm q), updA_ne q]
      exact (s.sl i).mono kp.le fun a ha u e => kp.keep a u e fun z => q (s.dj i j a ha z)
  · rcases updA_mem ha with ⟨_, z⟩ | ⟨q1, z⟩
    · exact fr.nf a z
    · cases q : F' a with
      | none => rfl
      | some u =>
        rcases kp.fre a u q with w | w | w
        · rw [s.nf i a z] at w; cases w
        · exact absurd (s.dj i j a z w) q1
        · obtain ⟨x, hx⟩ := th i a z
          rw [hx] at w; cases w
  · by_cases q : i = j
    · subst q; rw [updA_same]; exact fr.nd
    · rw [updA_ne q]; exact s.nd i
  · rcases updA_mem ha with ⟨e1, z1⟩ | ⟨e1, z1⟩ <;> rcases updA_mem hb with ⟨e2, z2⟩ | ⟨e2, z2⟩
    · rw [e1, e2]
    · rcases fr.fr a z1 with w | w
      · exact absurd (s.dj i' j a z2 w) e2
      · exact absurd z2 (s.apart w i')
    · rcases fr.fr a z2 with w | w
      · exact absurd (s.dj i j a z1 w) e1
      · exact absurd z1 (s.apart w i)
    · exact s.dj i i' a z1 z2
  · rcases kp.fre a u e with z | z | z
    · exact .inl z
    · exact .inr (.inl ⟨j, z⟩)
    · exact .inr (.inr z)
  · rcases updA_mem ha with ⟨_, z⟩ | ⟨_, z⟩
    · rcases fr.fr a z with w | w
      · exact .inl ⟨j, w⟩
      · exact .inr w
    · exact .inl ⟨i, z⟩
def O.toRO (r : Nat) (o : O) (ρ : Rho) : R (Nat × D × Rho) := match o with
  | .ok d => .ok (r, d, ρ)
  | .exc c w => .exc c w ρ
  | .bad => .bad
def dCall0 (r : Nat) (Fn : List D → O) (fa : Rho → R (List D × Rho)) : Rho → R (Nat × D × Rho) := fun ρ => (fa ρ).bind fun p => (Fn p.1).toRO r p.2
theorem to_call0 {r ar : Nat} {Fn : List D → O} {ta : TA} {fa : Rho → R (List D × Rho)} (ha : TAok G Pn W ta fa) (hl : ∀ ρ ds ρ', fa ρ = .ok (ds, ρ') → ds.length = ar) : TOok G Pn W (tCallS (spec0 G r ar Fn) (WE W) ta) (dCall0 r Fn fa) := by
  intro F ρ σ H A Q s ok ex nb
  refine ha F ρ σ H A _ s (fun xs ρ1 e1 vs F1 H1 A1 s1 S1 r1 => ?_) (fun c w ρ1 e1 => ex c w ρ1 (R.bind_exc e1)) (R.bind_bad nb)
  have E1 : dCall0 r Fn fa ρ = (Fn xs).toRO r ρ1 := R.bind_ok e1
  rw [E1] at ok ex nb
  refine ⟨xs, F1, S1.sub, r1, by rw [← r1.length]; exact hl ρ xs ρ1 e1, fun z => nb (by rw [z]; rfl), fun d ed v F' H' l kp ow fr => ?_, fun c w ed dx v F' H' kp hx rx => ?_⟩
  · obtain ⟨S2, s2⟩ := S1.kept kp
    refine ok r d ρ1 (by rw [ed]; rfl) v F' H' A1 l (s1.trans s2) S2 ⟨ow, fr.nf, fun a ha i hi => ?_, fr.nd⟩ fun a ha => ?_
    · rcases fr.fr a ha with z | z
      · cases z
      · exact S1.apart z i hi
    · rcases fr.fr a ha with z | z
      · cases z
      · exact s1.back (.inr z)
  · obtain ⟨S2, s2⟩ := S1.kept kp
    exact ex c w ρ1 (by rw [ed]; rfl) σ dx v F' H' A1 (s1.trans s2) S2 hx rx
/-- a call whose first argument is the owned slot j -/
def O1.toRO (r j : Nat) (io : Bool) (k : Nat) (o : O1) (ρ : Rho) : R (Nat × D × Rho) := match o with
  | .ok d e => .ok (r, d, ρ.set j (.own io k e))
  | .exc c w => .exc c w (ρ.set j .no)
  | .bad => .bad
def call1 (r k j : Nat) (Fn : D → List D → O1) (ds : List D) (ρ : Rho) : R (Nat × D × Rho) := match ρ[j]? with
  | some (.own io k' d) => if k' = k then (Fn d ds).toRO r j io k ρ else .bad
  | _ => .bad
def dCall1 (r k j : Nat) (Fn : D → List D → O1) (fa : Rho → R (List D × Rho)) : Rho → R (Nat × D × Rho) := fun ρ => match ρ[j]? with
  | some (.own _ _ _) => (fa ρ).bind fun p => call1 r k j Fn p.1 p.2
  | _ => .bad
theorem to_call1 {r k j ar : Nat} {Fn : D → List D → O1} {ta : TA} {fa : Rho → R (List D × Rho)} (ha : TAok G Pn W ta fa) (hl : ∀ ρ ds ρ', fa ρ = .ok (ds, ρ') → ds.length + 1 = ar) :
    TOok G Pn W (tCallS (spec1 G r k ar Fn) (WE W) (tCons (tVar j) ta)) (dCall1 r k j Fn fa) := by
  intro F ρ σ H A Q s ok ex nb
  unfold dCall1 at ok ex nb
  split at ok
  case h_2 hn => 
    exact absurd (by split <;> first | rfl | (rename_i a b c q; exact absurd q (hn a b c))) nb
  rename_i io0 k0 d0 h0
  rw [h0] at ex nb
  dsimp only at ex nb ok
  obtain ⟨v0, ev0, _, _⟩ := s.own h0
  refine ⟨v0, ev0, ?_⟩
  refine ha F ρ σ H A _ s (fun xs ρ1 e1 vs F1 H1 A1 s1 S1 r1 => ?_) (fun c w ρ1 e1 => ex c w ρ1 (R.bind_exc e1)) (R.bind_bad nb)
  rw [R.bind_ok e1] at ok ex nb
  unfold call1 at ok ex nb
  dsimp only at ok ex nb
  cases h1 : ρ1[j]? with
  | none => rw [h1] at nb; exact absurd rfl nb
  | some sl =>
    rw [h1] at ok ex nb
    cases sl with
    | no => exact absurd rfl nb
    | fro d => exact absurd rfl nb
    | own io k' d =>
      dsimp only at ok ex nb
      by_cases hk : k' = k
      · subst hk
        rw [if_pos rfl] at ok ex nb
        obtain ⟨v1, ev1, _, ow1⟩ := S1.own h1
        rw [ev0] at ev1
        cases ev1
        refine ⟨v0, vs, d, xs, F1, A1 j, rfl, S1.sub, ow1, ⟨S1.nf j, fun a ha => .inl ha, S1.nd j⟩, r1, by rw [List.length_cons, ← r1.length]; exact hl ρ xs ρ1 e1, fun z => nb (by rw [z]; rfl), fun dd e ed v F' H' l l' kp ow' fr' ow fr dj => ?_, fun c w ed dx v F' H' kp hx rx => ?_⟩
        · obtain ⟨S2, s2⟩ := S1.kept1 h1 ev0 kp ow' fr'
          refine ok r dd _ (by rw [ed]; rfl) v F' H' _ l (s1.trans s2) S2 ⟨ow, fr.nf, fun a ha i hi => ?_, fr.nd⟩ fun a ha => ?_
          · rcases updA_mem hi with ⟨_, z⟩ | ⟨q, z⟩
            · exact dj a ha z
            · rcases fr.fr a ha with w | w
              · exact q (S1.dj i j a z w)
              · exact S1.apart w i z
          · rcases fr.fr a ha with z | z
            · exact s1.back (.inl ⟨j, z⟩)
            · exact s1.back (.inr z)
        · -- the slot is lost
          have S3 := S1.forget j
          have kp' : Kept F1 H1 F' H' (A1 j) := kp
          have th : ∀ i a, a ∈ A1 i → ∃ u, H1 a = some u := fun i a ha => by
            cases q : H1 a with
            | some u => exact ⟨u, rfl⟩
            | none => exact absurd ha (S1.apart q i)
          refine ex c w (ρ1.set j .no) (by rw [ed]; rfl) σ dx v F' H' (updA A1 j []) (s1.trans ⟨kp.le, fun a u e n => kp.keep a u e (n j), fun a u e => ?_, (Step.drop (F := F1) (H := H1) (j := j)).own⟩) ⟨kp.sub, S3.len, fun i => ?_, fun i a ha => ?_, S3.nd, S3.dj⟩ hx rx
          · rcases kp.fre a u e with z | z | z
            · exact .inl z
            · exact .inr (.inl ⟨j, z⟩)
            · exact .inr (.inr z)
          · refine (S3.sl i).mono kp.le fun a ha u e => kp.keep a u e fun z => ?_
            rcases updA_mem ha with ⟨_, q⟩ | ⟨q, q'⟩
            · cases q
            · exact q (S1.dj i j a q' z)
          · rcases updA_mem ha with ⟨_, q⟩ | ⟨q, q'⟩
            · cases q
            · cases z : F' a with
              | none => rfl
              | some u =>
                rcases kp.fre a u z with w | w | w
                · rw [S1.nf i a q'] at w; cases w
                · exact absurd (S1.dj i j a q' w) q
                · obtain ⟨x, hx⟩ := th i a q'
                  rw [hx] at w; cases w
      · rw [if_neg hk] at nb; exact absurd rfl nb
/-! ### a def's body gives its promise -/
theorem getElem?_map' {α β : Type} (f : α → β) (l : List α) (i : Nat) : (l.map f)[i]? = (l[i]?).map f := List.getElem?_map ..
theorem init_slot {F H : Hp} {ds : List D} {vs : List V} {n i m : Nat} (hr : RepL G F ds vs) (hn : ds.length ≤ n) :
    SlotRep G Pn F H m (initR n ds)[i]? (vs.map some ++ List.replicate (n - vs.length) none : L2.St)[i]? [] := by
  have hlen := hr.length
  unfold initR
  by_cases hi : i < ds.length
  · rw [List.getElem?_append_left (by rw [List.length_map]; exact hi), List.getElem?_append_left (by rw [List.length_map]; omega), List.getElem?_map, List.getElem?_map]
    have hd := List.getElem?_eq_getElem hi
    obtain ⟨v, hv, r⟩ := hr.get' hd
    rw [hd, hv]
    exact ⟨⟨v, rfl, r⟩, rfl⟩
  · rw [List.getElem?_append_right (by rw [List.length_map]; omega), List.getElem?_replicate]
    split <;> rfl
theorem fin0_rt {r k : Nat} {d : D} {ρ : Rho} (h : k = r ∨ r = 0) : fin0 r (.rt k d ρ) = .ok d := if_pos h
theorem fin0_rtN {r k : Nat} {d : D} {ρ : Rho} (h : ¬ (k = r ∨ r = 0)) : fin0 r (.rt k d ρ) = .bad := if_neg h
theorem fin0_nx {ρ : Rho} : fin0 0 (.nx ρ) = .ok .non := rfl
theorem fin0_nxN {r : Nat} {ρ : Rho} (h : ¬ r = 0) : fin0 r (.nx ρ) = .bad := if_neg h
theorem fin1_rt {r k j : Nat} {d : D} {ρ : Rho} (h : j = r ∨ r = 0) : fin1 r k (.rt j d ρ) = ioAt k d ρ := if_pos h
theorem fin1_rtN {r k j : Nat} {d : D} {ρ : Rho} (h : ¬ (j = r ∨ r = 0)) : fin1 r k (.rt j d ρ) = .bad := if_neg h
theorem fin1_nx {k : Nat} {ρ : Rho} : fin1 0 k (.nx ρ) = ioAt k .non ρ := rfl
theorem fin1_nxN {r k : Nat} {ρ : Rho} (h : ¬ r = 0) : fin1 r k (.nx ρ) = .bad := if_neg h
theorem fin0_bad {r : Nat} {s : S} (h : fin0 r s ≠ .bad) : s ≠ .bad := fun z => h (by rw [z]; rfl)
theorem body0 {n r ar : Nat} {N : List Str} {t : TS} {f : Rho → S} {vs : List V} {H : Hp} {Q : VK} {E : XK} (ht : TSok G Pn (fun cls d _ H => E cls d H) t f) (hN : N.length = n) (har : ar ≤ n) (h : spec0 G r ar (fn0 n r f) vs H Q E) :
    t { nx := fun _ H' => Q .non H', rt := Q } (L2.start N vs) H := by
  obtain ⟨ds, F, le, rl, hl, nb, ok, ex⟩ := h
  have hlen := rl.length
  have hst : L2.start N vs = vs.map some ++ List.replicate (n - vs.length) none := by unfold L2.start; rw [hN]
  have s0 : Sim G Pn F (initR n ds) (L2.start N vs) H (fun _ => []) := by
    rw [hst]
    refine ⟨le, ?_, fun i => init_slot rl (by omega), (fun _ _ z => nomatch z), (fun _ => List.nodup_nil), (fun _ _ _ z => nomatch z)⟩
    unfold initR
    rw [List.length_append, List.length_append, List.length_map, List.length_map, List.length_replicate, List.length_replicate, hlen]
  have kp : ∀ {F' H' : Hp} {A' : Nat → List Addr} {ρ' : Rho} {σ' : L2.St}, Step F H (fun _ => []) F' H' A' → Sim G Pn F' ρ' σ' H' A' → Kept F H F' H' [] := fun {F' H' A' ρ' σ'} s' S' =>
    ⟨s'.le, fun a o e _ => s'.keep a o e (fun _ z => nomatch z), S'.sub, fun a o e => by
      rcases s'.fre a o e with z | ⟨_, z⟩ | z
      · exact .inl z
      · cases z
      · exact .inr (.inr z)⟩
  have hfn : ∀ {x : S}, f (initR n ds) = x → fn0 n r f ds = fin0 r x := fun {x} e => by unfold fn0; rw [e]
  refine ht F (initR n ds) _ H (fun _ => []) _ s0 (fun ρ' e σ' F' H' A' s' S' => ?_) (fun ρ' e => absurd (by rw [hfn e]; rfl) nb) (fun ρ' e => absurd (by rw [hfn e]; rfl) nb) (fun k d ρ' e v σ' F' H' A' l s' S' T' hl' => ?_) (fun c w ρ' e σ' dx v F' H' A' s' S' hx rx => ?_) (fun e => nb (by rw [hfn e]; rfl))
  · have e' := hfn e
    by_cases hr : r = 0
    · subst hr
      refine ok .non (e'.trans fin0_nx) .non F' H' [] (kp s' S') (by unfold Own; exact ⟨by unfold Rep; rfl, rfl⟩) ⟨(fun _ z => nomatch z), (fun _ z => nomatch z), List.nodup_nil⟩
    · exact absurd (e'.trans (fin0_nxN hr)) nb
  · have e' := hfn e
    have fr : ∀ a ∈ l, H a = none := fun a ha => by
      rcases hl' a ha with ⟨_, z⟩ | z
      · cases z
      · exact z
    by_cases hk : k = r
    · subst hk
      exact ok d (e'.trans (fin0_rt (Or.inl rfl))) v F' H' l (kp s' S') T'.own ⟨T'.nf, fun a ha => .inr (fr a ha), T'.nd⟩
    · by_cases hr : r = 0
      · subst hr
        obtain ⟨F2, S2, le2, r2, fr2⟩ := S'.freeze T'
        have k1 := kp s' S'
        refine ok d (e'.trans (fin0_rt (Or.inr rfl))) v F2 H' [] ⟨k1.le.trans le2, k1.keep, S2.sub, fun a o e => ?_⟩ (Own.zero.mpr ⟨r2, rfl⟩) ⟨(fun _ z => nomatch z), (fun _ z => nomatch z), List.nodup_nil⟩
        rcases fr2 a o e with z | z
        · exact k1.fre a o z
        · exact .inr (.inr (fr a z))
      · exact absurd (e'.trans (fin0_rtN (by omega))) nb
  · exact ex c w (by rw [hfn e]; rfl) dx v F' H' (kp s' S') hx rx
theorem body1 {n r k ar : Nat} {N : List Str} {t : TS} {f : Rho → S} {vs : List V} {H : Hp} {Q : VK} {E : XK} (ht : ∀ v0, vs.head? = some v0 → TSok G (fun _ => v0) (fun cls d _ H => E cls d H) t f) (hN : N.length = n) (har : ar ≤ n) (h : spec1 G r k ar (fn1 n r k f) vs H Q E) :
    t { nx := fun _ H' => Q .non H', rt := Q } (L2.start N vs) H := by
  obtain ⟨v0, vr, d0, dr, F, l0, rfl, le, ow0, fr0, rl, hl, nb, ok, ex⟩ := h
  have hlen := rl.length
  have hl : vr.length + 1 = ar := hl
  have hst : L2.start N (v0 :: vr) = some v0 :: (vr.map some ++ List.replicate (n - 1 - vr.length) none) := by
    unfold L2.start
    rw [hN, List.map_cons, List.length_cons]
    show some v0 :: (vr.map some ++ List.replicate (n - (vr.length + 1)) none) = _
    rw [show n - (vr.length + 1) = n - 1 - vr.length by omega]
  have s0 : Sim G (fun _ => v0) F (initR1 n k d0 dr) (L2.start N (v0 :: vr)) H (fun i => if i = 0 then l0 else []) := by
    rw [hst]
    refine ⟨le, ?_, fun i => ?_, fun i a ha => ?_, fun i => ?_, fun i j a ha hb => ?_⟩
    · unfold initR1
      rw [List.length_cons, List.length_cons, List.length_append, List.length_append, List.length_map, List.length_map, List.length_replicate, List.length_replicate, hlen]
    · cases i with
      | zero => exact ⟨v0, rfl, fun _ => rfl, ow0⟩
      | succ i =>
        rw [if_neg (by omega)]
        have q := init_slot (Pn := fun _ => v0) (H := H) (n := n - 1) (i := i) (m := i + 1) rl (by omega)
        unfold initR at q
        unfold initR1
        rw [List.getElem?_cons_succ, List.getElem?_cons_succ]
        exact q
    · try dsimp only at ha
      split at ha
      · exact fr0.nf a ha
      · cases ha
    · try dsimp only
      split
      · exact fr0.nd
      · exact List.nodup_nil
    · try dsimp only at ha hb
      split at ha
      · split at hb
        · omega
        · cases hb
      · cases ha
  have kp : ∀ {F' H' : Hp} {A' : Nat → List Addr} {ρ' : Rho} {σ' : L2.St}, Step F H (fun i => if i = 0 then l0 else []) F' H' A' → Sim G (fun _ => v0) F' ρ' σ' H' A' → Kept F H F' H' l0 := fun {F' H' A' ρ' σ'} s' S' =>
    ⟨s'.le, fun a o e na => s'.keep a o e (fun i z => by
      try dsimp only at z
      split at z
      · exact na z
      · cases z), S'.sub, fun a o e => by
      rcases s'.fre a o e with z | ⟨i, z⟩ | z
      · exact .inl z
      · try dsimp only at z
        split at z
        · exact .inr (.inl z)
        · cases z
      · exact .inr (.inr z)⟩
  have hfn : ∀ {x : S}, f (initR1 n k d0 dr) = x → fn1 n r k f d0 dr = fin1 r k x := fun {x} e => by unfold fn1; rw [e]
  have isl0 : ∀ {a : Addr}, (∃ j : Nat, a ∈ (if j = 0 then l0 else [])) ∨ H a = none → a ∈ l0 ∨ H a = none := fun {a} z => by
    rcases z with ⟨j, z⟩ | z
    · split at z
      · exact .inl z
      · cases z
    · exact .inr z
  -- the io slot at the end
  have fin : ∀ {kk : Nat} {d : D} {ρ' : Rho} {v : V} {σ' : L2.St} {F' H' : Hp} {A' : Nat → List Addr} {l : List Addr}, Step F H (fun i => if i = 0 then l0 else []) F' H' A' → Sim G (fun _ => v0) F' ρ' σ' H' A' → Tmp G F' H' A' kk d v l →
      (∀ a ∈ l, (∃ j : Nat, a ∈ (if j = 0 then l0 else [])) ∨ H a = none) → (kk = r ∨ r = 0) → fn1 n r k f d0 dr = ioAt k d ρ' → Q v H' := fun {kk d ρ' v σ' F' H' A' l} s' S' T' hl' hk e => by
    unfold ioAt at e
    cases h0 : ρ'[0]? with
    | none => rw [h0] at e; exact absurd e nb
    | some sl =>
      rw [h0] at e
      cases sl with
      | no => exact absurd e nb
      | fro x => exact absurd e nb
      | own io k' x =>
        cases io with
        | false => exact absurd e nb
        | true =>
          dsimp only at e
          by_cases hkk : k' = k
          · subst hkk
            rw [if_pos rfl] at e
            obtain ⟨v1, ev1, p1, ow1⟩ := S'.own h0
            have := p1 rfl
            subst this
            have fr1 : ∀ a ∈ A' 0, a ∈ l0 ∨ H a = none := fun a ha => isl0 (s'.own 0 a ha)
            by_cases hkr : kk = r
            · subst hkr
              exact ok d x e v F' H' l (A' 0) (kp s' S') ow1 ⟨S'.nf 0, fr1, S'.nd 0⟩ T'.own ⟨T'.nf, fun a ha => isl0 (hl' a ha), T'.nd⟩ fun a ha => T'.na a ha 0
            · have hr : r = 0 := hk.resolve_left hkr
              subst hr
              obtain ⟨F2, S2, le2, r2, fr2⟩ := S'.freeze T'
              obtain ⟨v2, ev2, _, ow2⟩ := S2.own h0
              rw [ev1] at ev2
              cases ev2
              have k1 := kp s' S'
              refine ok d x e v F2 H' [] (A' 0) ⟨k1.le.trans le2, k1.keep, S2.sub, fun a o e => ?_⟩ ow2 ⟨S2.nf 0, fr1, S2.nd 0⟩ (Own.zero.mpr ⟨r2, rfl⟩) ⟨(fun _ z => nomatch z), (fun _ z => nomatch z), List.nodup_nil⟩ (fun _ z => nomatch z)
              rcases fr2 a o e with z | z
              · exact k1.fre a o z
              · rcases isl0 (hl' a z) with w | w
                · exact .inr (.inl w)
                · exact .inr (.inr w)
          · rw [if_neg hkk] at e; exact absurd e nb
  refine ht v0 rfl F (initR1 n k d0 dr) _ H _ _ s0 (fun ρ' e σ' F' H' A' s' S' => ?_) (fun ρ' e => absurd (by rw [hfn e]; rfl) nb) (fun ρ' e => absurd (by rw [hfn e]; rfl) nb) (fun kk d ρ' e v σ' F' H' A' l s' S' T' hl' => ?_) (fun c w ρ' e σ' dx v F' H' A' s' S' hx rx => ?_) (fun e => nb (by rw [hfn e]; rfl))
  · have e' := hfn e
    by_cases hr : r = 0
    · subst hr
      exact fin (kk := 0) (d := .non) (v := .non) (l := []) s' S' (Tmp.ofRep (by unfold Rep; rfl)) (fun _ z => nomatch z) (Or.inl rfl) (e'.trans fin1_nx)
    · exact absurd (e'.trans (fin1_nxN hr)) nb
  · have e' := hfn e
    by_cases hk : kk = r ∨ r = 0
    · exact fin s' S' T' hl' hk (e'.trans (fin1_rt hk))
    · exact absurd (e'.trans (fin1_rtN hk)) nb
  · exact ex c w (by rw [hfn e]; rfl) dx v F' H' (kp s' S') hx rx
end
end DL
end
noncomputable section
set_option maxRecDepth 100000
set_option maxHeartbeats 400000
/-! ## DL6: operations on values, by data -/
namespace DL
open PySem PySem.Spec PyProof.Rows L2

section
variable {G : Gam} {Pn : Nat → V} {W : WX}

theorem rep_str {F : Hp} {x : Str} {v : V} (h : Rep G F (.str x) v) : v = .str x := by unfold Rep at h; exact h
theorem rep_bl {F : Hp} {b : Bool} {v : V} (h : Rep G F (.bl b) v) : v = .bl b := by unfold Rep at h; exact h
theorem rep_non {F : Hp} {v : V} (h : Rep G F .non v) : v = .non := by unfold Rep at h; exact h
theorem rep_tup {F : Hp} {xs : List D} {v : V} (h : Rep G F (.tup xs) v) : ∃ a vs, v = .ref a ∧ F a = some (.tup vs) ∧ vs.length ≤ sizeLine ∧ RepL G F xs vs := by unfold Rep at h; exact h
theorem rep_lst {F : Hp} {xs : List D} {v : V} (h : Rep G F (.lst xs) v) : ∃ a vs, v = .ref a ∧ F a = some (.lst vs) ∧ vs.length ≤ sizeLine ∧ RepL G F xs vs := by unfold Rep at h; exact h
theorem rep_ins {F : Hp} {c : Nat} {fs : List D} {v : V} (h : Rep G F (.ins c fs) v) : ∃ a dx vs, v = .ref a ∧ F a = some (.ins (G.cl c) dx ((G.nm c).zip vs)) ∧ vs.length ≤ (G.nm c).length ∧ RepL G F fs vs := by unfold Rep at h; exact h
theorem mk_int {F : Hp} {i : Int} : Rep G F (.int i) (.int i) := by unfold Rep; rfl
theorem mk_str {F : Hp} {x : Str} : Rep G F (.str x) (.str x) := by unfold Rep; rfl
theorem mk_bl {F : Hp} {b : Bool} : Rep G F (.bl b) (.bl b) := by unfold Rep; rfl
theorem mk_non {F : Hp} : Rep G F .non .non := by unfold Rep; rfl
theorem mk_tup {F : Hp} {xs : List D} {a : Addr} {vs : List V} (h : F a = some (.tup vs)) (z : vs.length ≤ sizeLine) (r : RepL G F xs vs) : Rep G F (.tup xs) (.ref a) := by unfold Rep; exact ⟨a, vs, rfl, h, z, r⟩
theorem mk_lst {F : Hp} {xs : List D} {a : Addr} {vs : List V} (h : F a = some (.lst vs)) (z : vs.length ≤ sizeLine) (r : RepL G F xs vs) : Rep G F (.lst xs) (.ref a) := by unfold Rep; exact ⟨a, vs, rfl, h, z, r⟩
/-- the most items, signs that are served -/
def most : Nat := 10000000
theorem most_le {n : Nat} (h : n ≤ most) : n ≤ sizeLine := by rw [sizeLine_eq]; unfold most at h; omega

/-! ### two ints -/
def intOp (C : Int → Int → Bool) (g : Int → Int → D) : D → D → O
  | .int i, .int j => if C i j = true then .ok (g i j) else .bad
  | _, _ => .bad
theorem v2_I {C : Int → Int → Prop} {c : Int → Int → Bool} {g : Int → Int → D} {gv : Int → Int → V} (hc : ∀ i j, c i j = true → C i j) (hg : ∀ i j F, Rep G F (g i j) (gv i j)) : V2ok G Pn W (rI C gv) (intOp c g) := by
  intro F ρ σ H A x y v u Q s rx ry ok nb ne
  cases x with
  | int i =>
    cases y with
    | int j =>
      rw [show intOp c g (.int i) (.int j) = if c i j = true then .ok (g i j) else .bad from rfl] at ok nb
      by_cases h : c i j = true
      · rw [if_pos h] at ok
        exact ⟨i, j, rep_int rx, rep_int ry, hc i j h, ok _ rfl _ F H A (Step.refl F H A) s (hg i j F)⟩
      · rw [if_neg h] at nb; exact absurd rfl nb
    | _ => exact absurd rfl nb
  | _ => exact absurd rfl nb
def intOp0 (g : Int → Int → D) : D → D → O
  | .int i, .int j => .ok (g i j)
  | _, _ => .bad
theorem v2_I0 {g : Int → Int → D} {gv : Int → Int → V} (hg : ∀ i j F, Rep G F (g i j) (gv i j)) : V2ok G Pn W (rI0 gv) (intOp0 g) := by
  intro F ρ σ H A x y v u Q s rx ry ok nb ne
  cases x with
  | int i =>
    cases y with
    | int j => exact ⟨i, j, rep_int rx, rep_int ry, ok _ rfl _ F H A (Step.refl F H A) s (hg i j F)⟩
    | _ => exact absurd rfl nb
  | _ => exact absurd rfl nb
abbrev oSub := intOp0 fun i j => .int (i - j)
abbrev oLt := intOp0 fun i j => .bl (cdec (i < j))
abbrev oLe := intOp0 fun i j => .bl (cdec (i ≤ j))
abbrev oGt := intOp0 fun i j => .bl (cdec (j < i))
abbrev oGe := intOp0 fun i j => .bl (cdec (j ≤ i))
theorem v2_sub : V2ok G Pn W (rI0 fun i j => .int (i - j)) oSub := v2_I0 fun _ _ _ => mk_int
theorem v2_lt : V2ok G Pn W (rI0 fun i j => .bl (decide (i < j))) oLt := v2_I0 fun _ _ _ => by rw [cdec_dec]; exact mk_bl
theorem v2_le : V2ok G Pn W (rI0 fun i j => .bl (decide (i ≤ j))) oLe := v2_I0 fun _ _ _ => by rw [cdec_dec]; exact mk_bl
theorem v2_gt : V2ok G Pn W (rI0 fun i j => .bl (decide (j < i))) oGt := v2_I0 fun _ _ _ => by rw [cdec_dec]; exact mk_bl
theorem v2_ge : V2ok G Pn W (rI0 fun i j => .bl (decide (j ≤ i))) oGe := v2_I0 fun _ _ _ => by rw [cdec_dec]; exact mk_bl
/-- how many bits -/
def bits (i : Int) : Nat := i.natAbs.log2
def mulOk (i j : Int) : Bool := cdec (bits i + bits j < 100000000)
theorem mulOk_ok {i j : Int} (h : mulOk i j = true) : IntMulOk i j := by
  have h := (Eq.mp cdec_eq) h
  unfold bits at h
  have b : ∀ x : Int, Builtin.Int.intBits x ≤ x.natAbs.log2 + 1 := fun x => by
    unfold Builtin.Int.intBits
    split <;> omega
  have h1 := b i
  have h2 := b j
  have e : bitsLine = 134217728 := by decide
  unfold IntMulOk
  intro z
  rw [Bool.and_eq_true] at z
  have z2 := z.2
  unfold Builtin.Int.intTooBig at z2
  have z3 := of_decide_eq_true z2
  rw [e] at z3
  omega
theorem op_mulX {X : Cx} : OpR X (binaryOp .Mult) (rI (fun i j => mulOk i j = true) fun i j => .int (i * j)) := opI fun _ _ _ _ _ _ _ hc q => mul_int q (mulOk_ok hc)
abbrev oMulI := intOp mulOk fun i j => .int (i * j)
def divOk (_ j : Int) : Bool := cdec (j ≠ 0 ∧ j.natAbs.log2 < 9000)
theorem op_divX {X : Cx} : OpR X (binaryOp .FloorDiv) (rI (fun i j => divOk i j = true) fun i j => .int (i.fdiv j)) := opI fun i j _ _ _ _ _ hc q => by
  have h : j ≠ 0 ∧ j.natAbs.log2 < 9000 := (Eq.mp cdec_eq) hc
  exact floordiv_int h.1 q (.inl (PyProof.noPylong_of_log2 h.2))
abbrev oDiv := intOp divOk fun i j => .int (i.fdiv j)
theorem v2_div : V2ok G Pn W (rI (fun i j => divOk i j = true) fun i j => .int (i.fdiv j)) oDiv := v2_I (fun _ _ h => h) fun _ _ _ => mk_int
abbrev oMod := intOp (fun _ j => cdec (j ≠ 0)) fun i j => .int (i.fmod j)
theorem v2_mod : V2ok G Pn W (rI (fun _ j => j ≠ 0) fun i j => .int (i.fmod j)) oMod := v2_I (fun _ _ h => (Eq.mp cdec_eq) h) fun _ _ _ => mk_int
def powOk (i j : Int) : Bool := cdec (0 ≤ j ∧ j ≤ 1000000 ∧ i.natAbs < 2 ^ 64)
abbrev oPow := intOp powOk fun i j => .int (i ^ j.toNat)
theorem v2_pow : V2ok G Pn W (rI CPow fun i j => .int (i ^ j.toNat)) oPow := v2_I (fun i j h => by
  unfold powOk at h
  rw [cdec_eq] at h
  exact ⟨h.1, h.2.1, h.2.2⟩) fun _ _ _ => mk_int
def oNeg : D → O
  | .int i => .ok (.int (-i))
  | _ => .bad
theorem v1_neg : V1ok G Pn W (rU fun i => .int (-i)) oNeg := by
  intro F ρ σ H A x v Q s rx ok nb ne
  cases x with
  | int i => exact ⟨i, rep_int rx, ok _ rfl _ F H A (Step.refl F H A) s mk_int⟩
  | _ => exact absurd rfl nb

/-! ### + -/
def rAddA (K : PySem.W.Frag) : R2 := fun x y H Q => (rI0 (fun i j => .int (i + j))) x y H Q ∨ (∃ i j, x = .str i ∧ y = .str j ∧ i.length + j.length ≤ sizeLine ∧ Q (.str (i ++ j)) H) ∨ rCatA K x y H Q ∨ rCat x y H Q
theorem op_addA {X : Cx} : OpR X (binaryOp .Add) (rAddA X.K) := op_add.or (op_add_str.or (op_catA.or op_cat))
def oAdd : D → D → O
  | .int i, .int j => .ok (.int (i + j))
  | .str x, .str y => if x.length + y.length ≤ most then .ok (.str (x ++ y)) else .bad
  | .tup xs, .tup ys => if xs.length + ys.length ≤ most then .ok (.tup (xs ++ ys)) else .bad
  | .lst xs, .lst ys => if xs.length + ys.length ≤ most then .ok (.lst (xs ++ ys)) else .bad
  | _, _ => .bad
theorem upd_rep {F : Hp} {p : Addr} {o : HO} (h : F p = none) : Le F (upd F p o) := fun a u e => by rw [upd_ne (ne_of_none e h)]; exact e
theorem Sim.noF {F H : Hp} {ρ : Rho} {σ : L2.St} {A : Nat → List Addr} (s : Sim G Pn F ρ σ H A) {p : Addr} (h : H p = none) : F p = none := by
  cases q : F p with
  | none => rfl
  | some u => rw [s.sub p u q] at h; cases h
theorem RepL.nil_iff {F : Hp} {xs : List D} {vs : List V} (h : RepL G F xs vs) : vs = [] ↔ xs = [] := by
  have := h.length
  constructor
  · intro e; rw [e] at this; exact List.eq_nil_of_length_eq_zero (by simpa using this)
  · intro e; rw [e] at this; exact List.eq_nil_of_length_eq_zero (by simpa using this.symm)
theorem v2_add : V2ok G Pn W (rAddA G.K) oAdd := by
  intro F ρ σ H A x y v u Q s rx ry ok nb ne
  cases x with
  | int i =>
    cases y with
    | int j => exact .inl ⟨i, j, rep_int rx, rep_int ry, ok _ rfl _ F H A (Step.refl F H A) s mk_int⟩
    | _ => exact absurd rfl nb
  | str i =>
    cases y with
    | str j =>
      rw [show oAdd (.str i) (.str j) = if i.length + j.length ≤ most then .ok (.str (i ++ j)) else .bad from rfl] at ok nb
      by_cases h : i.length + j.length ≤ most
      · rw [if_pos h] at ok
        exact .inr (.inl ⟨i, j, rep_str rx, rep_str ry, most_le h, ok _ rfl _ F H A (Step.refl F H A) s mk_str⟩)
      · rw [if_neg h] at nb; exact absurd rfl nb
    | _ => exact absurd rfl nb
  | tup xs =>
    cases y with
    | tup ys =>
      rw [show oAdd (.tup xs) (.tup ys) = if xs.length + ys.length ≤ most then .ok (.tup (xs ++ ys)) else .bad from rfl] at ok nb
      by_cases h : xs.length + ys.length ≤ most
      · rw [if_pos h] at ok
        obtain ⟨a, vs, rfl, ha, za, ra⟩ := rep_tup rx
        obtain ⟨b, us, rfl, hb, zb, rb⟩ := rep_tup ry
        have hl : vs.length + us.length ≤ sizeLine := by rw [← ra.length, ← rb.length]; exact most_le h
        refine .inr (.inr (.inl ⟨a, b, vs, us, rfl, rfl, SqT.of (s.sub _ _ ha), SqT.of (s.sub _ _ hb), hl, fun e => ?_, fun e1 e => ?_, fun e1 e2 p hp => ?_⟩))
        · have e' := ra.nil_iff.mp e
          subst e'
          exact ok _ rfl _ F H A (Step.refl F H A) s ry
        · have e' := rb.nil_iff.mp e
          subst e'
          exact ok _ (by rw [List.append_nil]) _ F H A (Step.refl F H A) s rx
        · obtain ⟨S2, s2⟩ := s.new (o := .tup (vs ++ us)) hp
          exact ok _ rfl _ _ _ A s2 S2 (mk_tup upd_same (by rw [List.length_append]; exact hl) ((ra_mono s2.le ra).append (ra_mono s2.le rb)))
      · rw [if_neg h] at nb; exact absurd rfl nb
    | _ => exact absurd rfl nb
  | lst xs =>
    cases y with
    | lst ys =>
      rw [show oAdd (.lst xs) (.lst ys) = if xs.length + ys.length ≤ most then .ok (.lst (xs ++ ys)) else .bad from rfl] at ok nb
      by_cases h : xs.length + ys.length ≤ most
      · rw [if_pos h] at ok
        obtain ⟨a, vs, rfl, ha, za, ra⟩ := rep_lst rx
        obtain ⟨b, us, rfl, hb, zb, rb⟩ := rep_lst ry
        have hl : vs.length + us.length ≤ sizeLine := by rw [← ra.length, ← rb.length]; exact most_le h
        refine .inr (.inr (.inr ⟨a, b, vs, us, rfl, rfl, s.sub _ _ ha, s.sub _ _ hb, hl, fun p hp => ?_⟩))
        obtain ⟨S2, s2⟩ := s.new (o := .lst (vs ++ us)) hp
        exact ok _ rfl _ _ _ A s2 S2 (mk_lst upd_same (by rw [List.length_append]; exact hl) ((ra_mono s2.le ra).append (ra_mono s2.le rb)))
      · rw [if_neg h] at nb; exact absurd rfl nb
    | _ => exact absurd rfl nb
  | _ => exact absurd rfl nb
/-- the sum of two lists, owned -/
def oCat : List D → List D → O := fun xs ys => if xs.length + ys.length ≤ most then .ok (.lst (xs ++ ys)) else .bad
def oCatD : D → D → O
  | .lst xs, .lst ys => oCat xs ys
  | _, _ => .bad
def dCatO (fa fb : Rho → R (D × Rho)) : Rho → R (Nat × D × Rho) := fun ρ => (fa ρ).bind fun p => (fb p.2).bind fun q => (oCatD p.1 q.1).toRO 1 q.2
theorem tmp_lst {F H : Hp} {ρ : Rho} {σ : L2.St} {A : Nat → List Addr} (s : Sim G Pn F ρ σ H A) {p : Addr} {vs : List V} {xs : List D} (hp : H p = none) (hz : vs.length ≤ sizeLine) (r : RepL G F xs vs) : Tmp G F (upd H p (.lst vs)) A 1 (.lst xs) (.ref p) [p] := by
  refine ⟨?_, fun a ha => ?_, fun a ha i hi => ?_, by simp⟩
  · unfold Own
    exact .inr ⟨0, p, vs, [], rfl, rfl, upd_same, hz, OwnL.zero.mpr ⟨r, rfl⟩, rfl⟩
  · rw [List.mem_singleton.mp ha]; exact s.noF hp
  · rw [List.mem_singleton.mp ha] at hi; exact s.apart hp i hi
theorem to_cat {ta tb : TE} {fa fb : Rho → R (D × Rho)} (ha : TEok G Pn W ta fa) (hb : TEok G Pn W tb fb) : TOok G Pn W (tOp (rAddA G.K) ta tb) (dCatO fa fb) := by
  intro F ρ σ H A Q s ok ex nb
  refine ha F ρ σ H A _ s (fun x ρ1 e1 v F1 H1 A1 s1 S1 r1 => ?_) (fun c w ρ1 e1 => ex c w ρ1 (R.bind_exc e1)) (R.bind_bad nb)
  have E1 : dCatO fa fb ρ = (fb ρ1).bind fun q => (oCatD x q.1).toRO 1 q.2 := R.bind_ok e1
  rw [E1] at ok ex nb
  refine hb F1 ρ1 σ H1 A1 _ S1 (fun y ρ2 e2 u F2 H2 A2 s2 S2 r2 => ?_) (fun c w ρ2 e2 => (ex c w ρ2 (R.bind_exc e2)).step s1) (R.bind_bad nb)
  have E2 : ((fb ρ1).bind fun q => (oCatD x q.1).toRO 1 q.2) = (oCatD x y).toRO 1 ρ2 := R.bind_ok e2
  rw [E2] at ok ex nb
  cases x with
  | lst xs =>
    cases y with
    | lst ys =>
      rw [show oCatD (.lst xs) (.lst ys) = if xs.length + ys.length ≤ most then .ok (.lst (xs ++ ys)) else .bad from rfl] at ok nb
      by_cases h : xs.length + ys.length ≤ most
      · rw [if_pos h] at ok
        obtain ⟨a, vs, rfl, ha, za, ra⟩ := rep_lst r1
        obtain ⟨b, us, rfl, hb, zb, rb⟩ := rep_lst r2
        have hl : vs.length + us.length ≤ sizeLine := by rw [← ra.length, ← rb.length]; exact most_le h
        refine .inr (.inr (.inr ⟨a, b, vs, us, rfl, rfl, S2.sub _ _ (s2.le _ _ ha), S2.sub _ _ hb, hl, fun p hp => ?_⟩))
        obtain ⟨S3, s3⟩ := S2.newO (o := .lst (vs ++ us)) hp
        refine ok 1 _ ρ2 rfl _ _ _ A2 [p] ((s1.trans s2).trans s3) S3 (tmp_lst S2 hp (by rw [List.length_append]; exact hl) ((ra_mono s2.le ra).append rb)) fun a ha => ?_
        rw [List.mem_singleton.mp ha]
        exact (s1.trans s2).back (.inr hp)
      · rw [if_neg h] at nb; exact absurd rfl nb
    | _ => exact absurd rfl nb
  | _ => exact absurd rfl nb

/-! ### ==, != of data -/
mutual
def toPy : D → Option PyData
  | .non => some .none
  | .bl b => some (.bool b)
  | .int i => some (.int i)
  | .str x => some (.str x)
  | .lst xs => (toPyL xs).map .list
  | .tup xs => (toPyL xs).map .tuple
  | .ins _ _ => none
  | .scr _ => none
def toPyL : List D → Option (List PyData)
  | [] => some []
  | d :: ds => match toPy d, toPyL ds with
    | some x, some xs => some (x :: xs)
    | _, _ => none
end
mutual
theorem toPy_dp {F H : Hp} (le : Le F H) : ∀ {d : D} {v : V} {x : PyData}, Rep G F d v → toPy d = some x → Dp G.K H v x
  | .non, v, x, r, e => by
    rw [rep_non r]
    unfold toPy at e; cases e; exact Dp.non
  | .bl b, v, x, r, e => by
    rw [rep_bl r]
    unfold toPy at e; cases e; exact Dp.bl b
  | .int i, v, x, r, e => by
    rw [rep_int r]
    unfold toPy at e; cases e; exact Dp.int i
  | .str s, v, x, r, e => by
    rw [rep_str r]
    unfold toPy at e; cases e; exact Dp.str s
  | .lst xs, v, x, r, e => by
    obtain ⟨a, vs, rfl, h, _, rl⟩ := rep_lst r
    unfold toPy at e
    cases q : toPyL xs with
    | none => rw [q] at e; cases e
    | some ys => rw [q] at e; cases e; exact Dp.lst (SqL.of (le _ _ h)) (toPyL_dp le rl q)
  | .tup xs, v, x, r, e => by
    obtain ⟨a, vs, rfl, h, _, rl⟩ := rep_tup r
    unfold toPy at e
    cases q : toPyL xs with
    | none => rw [q] at e; cases e
    | some ys => rw [q] at e; cases e; exact Dp.tup (SqT.of (le _ _ h)) (toPyL_dp le rl q)
  | .ins _ _, v, x, r, e => by unfold toPy at e; cases e
  | .scr _, v, x, r, e => by unfold toPy at e; cases e
theorem toPyL_dp {F H : Hp} (le : Le F H) : ∀ {ds : List D} {vs : List V} {xs : List PyData}, RepL G F ds vs → toPyL ds = some xs → DpAll G.K H vs xs
  | [], vs, xs, r, e => by
    unfold RepL at r
    unfold toPyL at e
    cases e
    rw [r]
    exact DpAll.nil
  | d :: ds, vs, xs, r, e => by
    unfold RepL at r
    obtain ⟨v, vr, rfl, r1, r2⟩ := r
    unfold toPyL at e
    cases q : toPy d with
    | none => rw [q] at e; cases e
    | some x =>
      cases q2 : toPyL ds with
      | none => rw [q, q2] at e; cases e
      | some xs' =>
        rw [q, q2] at e
        cases e
        exact DpAll.cons (toPy_dp le r1 q) (toPyL_dp le r2 q2)
end
def eqP (x y : D) : Option Bool := match toPy x, toPy y with
  | some d, some e => if SeqAt.shaped d = true ∧ SeqAt.shaped e = true then some (PyData.eqv d e) else none
  | _, _ => none
def eqD : D → D → Option Bool
  | .int i, .int j => some (i == j)
  | .str x, .str y => some (x == y)
  | .bl a, .bl b => some (a == b)
  | .non, .int _ => some false
  | .int _, .non => some false
  | .non, .str _ => some false
  | .str _, .non => some false
  | .non, .non => some true
  | .int _, .str _ => some false
  | .str _, .int _ => some false
  | x, y => eqP x y
theorem eqP_of {x y : D} {b : Bool} (h : eqP x y = some b) : ∃ d e, toPy x = some d ∧ toPy y = some e ∧ SeqAt.shaped d = true ∧ SeqAt.shaped e = true ∧ b = PyData.eqv d e := by
  unfold eqP at h
  split at h
  · rename_i d e h1 h2
    split at h
    · rename_i h3
      exact ⟨d, e, h1, h2, h3.1, h3.2, (Option.some.inj h).symm⟩
    · cases h
  · cases h
theorem eqD_of {F H : Hp} {x y : D} {v u : V} {b : Bool} (le : Le F H) (rx : Rep G F x v) (ry : Rep G F y u) (h : eqD x y = some b) :
    (scal v u = true ∧ b = decide (v = u)) ∨ ∃ d e, Dp G.K H v d ∧ Dp G.K H u e ∧ SeqAt.shaped d = true ∧ SeqAt.shaped e = true ∧ b = PyData.eqv d e := by
  unfold eqD at h
  split at h
  · cases rep_int rx; cases rep_int ry; cases h; exact .inl ⟨rfl, dec_int.symm⟩
  · cases rep_str rx; cases rep_str ry; cases h; exact .inl ⟨rfl, dec_str.symm⟩
  · cases rep_bl rx; cases rep_bl ry; cases h; exact .inl ⟨rfl, dec_bl.symm⟩
  · cases rep_non rx; cases rep_int ry; cases h; exact .inl ⟨rfl, rfl⟩
  · cases rep_int rx; cases rep_non ry; cases h; exact .inl ⟨rfl, rfl⟩
  · cases rep_non rx; cases rep_str ry; cases h; exact .inl ⟨rfl, rfl⟩
  · cases rep_str rx; cases rep_non ry; cases h; exact .inl ⟨rfl, rfl⟩
  · cases rep_non rx; cases rep_non ry; cases h; exact .inl ⟨rfl, rfl⟩
  · cases rep_int rx; cases rep_str ry; cases h; exact .inl ⟨rfl, rfl⟩
  · cases rep_str rx; cases rep_int ry; cases h; exact .inl ⟨rfl, rfl⟩
  · obtain ⟨d, e, h1, h2, h3, h4, h5⟩ := eqP_of h
    exact .inr ⟨d, e, toPy_dp le rx h1, toPy_dp le ry h2, h3, h4, h5⟩
def rEqA (K : PySem.W.Frag) : R2 := fun x y H Q => rEq x y H Q ∨ rEqD K x y H Q
def rNeA (K : PySem.W.Frag) : R2 := fun x y H Q => rNe x y H Q ∨ rNeD K x y H Q
theorem op_eqA {X : Cx} (hu : X.A.units + 64 < cLine) : OpR X (compareOp .Eq) (rEqA X.K) := op_eq.or (op_eqD hu)
theorem op_neA {X : Cx} (hu : X.A.units + 64 < cLine) : OpR X (compareOp .NotEq) (rNeA X.K) := op_ne.or (op_neD hu)
def O.ofBo : Option Bool → O
  | some b => .ok (.bl b)
  | none => .bad
def oEq (x y : D) : O := .ofBo (eqD x y)
def oNe (x y : D) : O := .ofBo ((eqD x y).map (!·))
theorem v2_eq : V2ok G Pn W (rEqA G.K) oEq := by
  intro F ρ σ H A x y v u Q s rx ry ok nb ne
  unfold oEq at ok nb
  cases q : eqD x y with
  | none => rw [q] at nb; exact absurd rfl nb
  | some b =>
    rw [q] at ok
    rcases eqD_of s.sub rx ry q with ⟨h1, rfl⟩ | ⟨d, e, h1, h2, h3, h4, rfl⟩
    · exact .inl ⟨h1, ok _ rfl _ F H A (Step.refl F H A) s mk_bl⟩
    · exact .inr ⟨d, e, h1, h2, h3, h4, ok _ rfl _ F H A (Step.refl F H A) s mk_bl⟩
theorem v2_ne : V2ok G Pn W (rNeA G.K) oNe := by
  intro F ρ σ H A x y v u Q s rx ry ok nb ne
  unfold oNe at ok nb
  cases q : eqD x y with
  | none => rw [q] at nb; exact absurd rfl nb
  | some b =>
    rw [q] at ok
    rcases eqD_of s.sub rx ry q with ⟨h1, rfl⟩ | ⟨d, e, h1, h2, h3, h4, rfl⟩
    · exact .inl ⟨h1, ok _ rfl _ F H A (Step.refl F H A) s mk_bl⟩
    · exact .inr ⟨d, e, h1, h2, h3, h4, ok _ rfl _ F H A (Step.refl F H A) s mk_bl⟩
/-- x is None -/
def isNon : D → Bool
  | .non => true
  | _ => false
def oIsN (neg : Bool) : D → D → O
  | x, .non => .ok (.bl (if neg then !isNon x else isNon x))
  | _, _ => .bad
theorem rep_isNon {F : Hp} {x : D} {v : V} (r : Rep G F x v) : decide (v = .non) = isNon x := by
  cases x with
  | non => rw [rep_non r]; rfl
  | bl b => rw [rep_bl r]; rfl
  | int i => rw [rep_int r]; rfl
  | str i => rw [rep_str r]; rfl
  | lst xs => obtain ⟨a, vs, rfl, _⟩ := rep_lst r; rfl
  | tup xs => obtain ⟨a, vs, rfl, _⟩ := rep_tup r; rfl
  | ins c xs => obtain ⟨a, dx, vs, rfl, _⟩ := rep_ins r; rfl
  | scr ns => unfold Rep at r; obtain ⟨a, rfl, _⟩ := r; rfl
theorem v2_isN : V2ok G Pn W (fun x y H Q => y = .non ∧ Q (.bl (decide (x = .non))) H) (oIsN false) := by
  intro F ρ σ H A x y v u Q s rx ry ok nb ne
  cases y with
  | non =>
    refine ⟨rep_non ry, ?_⟩
    rw [rep_isNon rx]
    exact ok _ rfl _ F H A (Step.refl F H A) s mk_bl
  | _ => exact absurd (by cases x <;> rfl) nb
theorem v2_notN : V2ok G Pn W (fun x y H Q => y = .non ∧ Q (.bl (!decide (x = .non))) H) (oIsN true) := by
  intro F ρ σ H A x y v u Q s rx ry ok nb ne
  cases y with
  | non =>
    refine ⟨rep_non ry, ?_⟩
    rw [rep_isNon rx]
    exact ok _ rfl _ F H A (Step.refl F H A) s mk_bl
  | _ => exact absurd (by cases x <;> rfl) nb

/-! ### x[i] -/
def O.ofD : Option D → O
  | some d => .ok d
  | none => .bad
def oIx : D → D → O
  | .lst xs, .int i => .ofD (L2.atI xs i)
  | .tup xs, .int i => .ofD (L2.atI xs i)
  | .str z, .int i => if z.length ≤ most then .ofD ((L2.atI z.cps.toList i).map fun c => .str ⟨#[c]⟩) else .bad
  | _, _ => .bad
theorem RepL.atI {F : Hp} {ds : List D} {vs : List V} {i : Int} {d : D} (h : RepL G F ds vs) (e : L2.atI ds i = some d) : ∃ v, L2.atI vs i = some v ∧ Rep G F d v := by
  unfold L2.atI at e ⊢
  rw [← h.length]
  cases q : ixN ds.length i with
  | none => rw [q] at e; cases e
  | some j =>
    rw [q] at e
    exact h.get' e
theorem v2_ix : V2ok G Pn W (rIx G.K) oIx := by
  intro F ρ σ H A x y v u Q s rx ry ok nb ne
  cases x with
  | lst xs =>
    cases y with
    | int i =>
      obtain ⟨a, vs, rfl, h, hz, rl⟩ := rep_lst rx
      rw [show oIx (.lst xs) (.int i) = .ofD (L2.atI xs i) from rfl] at ok nb
      cases q : L2.atI xs i with
      | none => rw [q] at nb; exact absurd rfl nb
      | some d =>
        rw [q] at ok
        obtain ⟨w, hw, rw'⟩ := rl.atI q
        exact .inl ⟨a, vs, i, w, rfl, rep_int ry, SqL.of (s.sub _ _ h), hw, ok _ rfl _ F H A (Step.refl F H A) s rw'⟩
    | _ => exact absurd rfl nb
  | tup xs =>
    cases y with
    | int i =>
      obtain ⟨a, vs, rfl, h, hz, rl⟩ := rep_tup rx
      rw [show oIx (.tup xs) (.int i) = .ofD (L2.atI xs i) from rfl] at ok nb
      cases q : L2.atI xs i with
      | none => rw [q] at nb; exact absurd rfl nb
      | some d =>
        rw [q] at ok
        obtain ⟨w, hw, rw'⟩ := rl.atI q
        exact .inr (.inl ⟨a, vs, i, w, rfl, rep_int ry, SqT.of (s.sub _ _ h), hw, ok _ rfl _ F H A (Step.refl F H A) s rw'⟩)
    | _ => exact absurd rfl nb
  | str z =>
    cases y with
    | int i =>
      rw [show oIx (.str z) (.int i) = if z.length ≤ most then .ofD ((L2.atI z.cps.toList i).map fun c => .str ⟨#[c]⟩) else .bad from rfl] at ok nb
      by_cases hz : z.length ≤ most
      · rw [if_pos hz] at ok nb
        cases q : L2.atI z.cps.toList i with
        | none => rw [q] at nb; exact absurd rfl nb
        | some c =>
          rw [q] at ok
          exact .inr (.inr ⟨z, i, c, rep_str rx, rep_int ry, most_le hz, q, ok _ rfl _ F H A (Step.refl F H A) s mk_str⟩)
      · rw [if_neg hz] at nb; exact absurd rfl nb
    | _ => exact absurd rfl nb
  | _ => exact absurd rfl nb
end
end DL
end
noncomputable section
set_option maxRecDepth 100000
set_option maxHeartbeats 400000
/-! ## DL7: builtins, displays, slices, owned things -/
namespace DL
open PySem PySem.Spec PyProof.Rows L2

section
variable {G : Gam} {Pn : Nat → V} {W : WX}

/-! ### builtins on values -/
theorem repl_nil {F : Hp} {vs : List V} (h : RepL G F [] vs) : vs = [] := by unfold RepL at h; exact h
def one1 (f : D → O) : List D → O
  | [d] => f d
  | _ => .bad
def oLen1 : D → O
  | .lst xs => .ok (.int (xs.length : Int))
  | .tup xs => .ok (.int (xs.length : Int))
  | .str z => if z.length ≤ most then .ok (.int (z.length : Int)) else .bad
  | .scr ns => .ok (.int (ns.length : Int))
  | _ => .bad
abbrev oLen : List D → O := one1 oLen1
def rLenA (K : PySem.W.Frag) : List V → Hp → VK → Prop := fun xs H Q => (∃ p ys, xs = [.ref p] ∧ (SqL K H p ys ∨ SqT K H p ys) ∧ Q (.int ys.length) H) ∨ (∃ z, xs = [.str z] ∧ z.length ≤ sizeLine ∧ Q (.int z.length) H)
theorem call_lenA {X : Cx} : CallR X (.builtin "len") (rLenA X.K) := call_len_seq.or call_len_str
/-- a function of one value -/
theorem vl_one {r : List V → Hp → VK → Prop} {op : D → O} (h : ∀ (F : Hp) (ρ : Rho) (σ : L2.St) (H : Hp) (A : Nat → List Addr) (x : D) (v : V) (Q : VK), Sim G Pn F ρ σ H A → Rep G F x v →
    (∀ d, op x = .ok d → ∀ w F' H' A', Step F H A F' H' A' → Sim G Pn F' ρ σ H' A' → Rep G F' d w → Q w H') → op x ≠ .bad → (∀ c w, op x ≠ .exc c w) → r [v] H Q) : VLok G Pn W r (one1 op) := by
  intro F ρ σ H A xs vs Q s r ok nb ne
  cases xs with
  | nil => exact absurd rfl nb
  | cons d ds =>
    cases ds with
    | cons e es => exact absurd rfl nb
    | nil =>
      obtain ⟨v, e0, q1⟩ := repl_one r
      subst e0
      exact h F ρ σ H A d v Q s q1 ok nb ne
theorem vl_len : VLok G Pn W (rLenA G.K) oLen := vl_one (by
  intro F ρ σ H A x v Q s r ok nb ne
  cases x with
  | lst ys =>
    obtain ⟨a, us, rfl, h, hz, rl⟩ := rep_lst r
    exact .inl ⟨a, us, rfl, .inl (SqL.of (s.sub _ _ h)), ok _ rfl _ F H A (Step.refl F H A) s (by rw [rl.length]; exact mk_int)⟩
  | tup ys =>
    obtain ⟨a, us, rfl, h, hz, rl⟩ := rep_tup r
    exact .inl ⟨a, us, rfl, .inr (SqT.of (s.sub _ _ h)), ok _ rfl _ F H A (Step.refl F H A) s (by rw [rl.length]; exact mk_int)⟩
  | scr ns =>
    unfold Rep at r
    obtain ⟨a, rfl, h, hz⟩ := r
    exact .inl ⟨a, _, rfl, .inl (s.sub.sql h), ok _ rfl _ F H A (Step.refl F H A) s (by rw [List.length_map]; exact mk_int)⟩
  | str z =>
    rw [show oLen1 (.str z) = if z.length ≤ most then .ok (.int (z.length : Int)) else .bad from rfl] at ok nb
    by_cases hz : z.length ≤ most
    · rw [if_pos hz] at ok
      exact .inr ⟨z, by rw [rep_str r], most_le hz, ok _ rfl _ F H A (Step.refl F H A) s mk_int⟩
    · rw [if_neg hz] at nb; exact absurd rfl nb
  | _ => exact absurd rfl nb)
def oAbs1 : D → O
  | .int i => .ok (.int (if i < 0 then -i else i))
  | _ => .bad
abbrev oAbs : List D → O := one1 oAbs1
theorem vl_abs : VLok G Pn W (fun xs H Q => ∃ i, xs = [.int i] ∧ Q (.int (if i < 0 then -i else i)) H) oAbs := vl_one (by
  intro F ρ σ H A x v Q s r ok nb ne
  cases x with
  | int i => exact ⟨i, by rw [rep_int r], ok _ rfl _ F H A (Step.refl F H A) s mk_int⟩
  | _ => exact absurd rfl nb)
def two1 (f : D → D → O) : List D → O
  | [d, e] => f d e
  | _ => .bad
theorem vl_two {r : List V → Hp → VK → Prop} {op : D → D → O} (h : ∀ (F : Hp) (ρ : Rho) (σ : L2.St) (H : Hp) (A : Nat → List Addr) (x y : D) (v u : V) (Q : VK), Sim G Pn F ρ σ H A → Rep G F x v → Rep G F y u →
    (∀ d, op x y = .ok d → ∀ w F' H' A', Step F H A F' H' A' → Sim G Pn F' ρ σ H' A' → Rep G F' d w → Q w H') → op x y ≠ .bad → (∀ c w, op x y ≠ .exc c w) → r [v, u] H Q) : VLok G Pn W r (two1 op) := by
  intro F ρ σ H A xs vs Q s r ok nb ne
  cases xs with
  | nil => exact absurd rfl nb
  | cons d ds =>
    cases ds with
    | nil => exact absurd rfl nb
    | cons e es =>
      cases es with
      | cons e2 es2 => exact absurd rfl nb
      | nil =>
        obtain ⟨v, u, e0, q1, q2⟩ := repl_two r
        subst e0
        exact h F ρ σ H A d e v u Q s q1 q2 ok nb ne
abbrev oMax2 : List D → O := two1 (intOp0 fun i j => .int (if j > i then j else i))
theorem vl_max2 : VLok G Pn W (fun xs H Q => ∃ i j, xs = [.int i, .int j] ∧ Q (.int (if j > i then j else i)) H) oMax2 := vl_two (by
  intro F ρ σ H A x y v u Q s r1 r2 ok nb ne
  cases x with
  | int i =>
    cases y with
    | int j => exact ⟨i, j, by rw [rep_int r1, rep_int r2], ok _ rfl _ F H A (Step.refl F H A) s mk_int⟩
    | _ => exact absurd rfl nb
  | _ => exact absurd rfl nb)
abbrev oMin2 : List D → O := two1 (intOp0 fun i j => .int (if j < i then j else i))
theorem vl_min2 : VLok G Pn W (fun xs H Q => ∃ i j, xs = [.int i, .int j] ∧ Q (.int (if j < i then j else i)) H) oMin2 := vl_two (by
  intro F ρ σ H A x y v u Q s r1 r2 ok nb ne
  cases x with
  | int i =>
    cases y with
    | int j => exact ⟨i, j, by rw [rep_int r1, rep_int r2], ok _ rfl _ F H A (Step.refl F H A) s mk_int⟩
    | _ => exact absurd rfl nb
  | _ => exact absurd rfl nb)
def oInt1 : D → O
  | .int i => .ok (.int i)
  | .bl b => .ok (.int (if b then 1 else 0))
  | _ => .bad
abbrev oInt : List D → O := one1 oInt1
theorem vl_int : VLok G Pn W (fun xs H Q => (∃ i, xs = [.int i] ∧ Q (.int i) H) ∨ ∃ k, xs = [.bl k] ∧ Q (.int (if k then 1 else 0)) H) oInt := vl_one (by
  intro F ρ σ H A x v Q s r ok nb ne
  cases x with
  | int i => exact .inl ⟨i, by rw [rep_int r], ok _ rfl _ F H A (Step.refl F H A) s mk_int⟩
  | bl b => exact .inr ⟨b, by rw [rep_bl r], ok _ rfl _ F H A (Step.refl F H A) s mk_int⟩
  | _ => exact absurd rfl nb)
def oStrI1 : D → O
  | .int i => if i.natAbs.log2 < 1920 then .ok (.str (toString i)) else .bad
  | _ => .bad
abbrev oStrI : List D → O := one1 oStrI1
theorem vl_strI : VLok G Pn W (fun xs H Q => ∃ i, xs = [.int i] ∧ i.natAbs.log2 < 1920 ∧ Q (.str (toString i)) H) oStrI := vl_one (by
  intro F ρ σ H A x v Q s r ok nb ne
  cases x with
  | int i =>
    rw [show oStrI1 (.int i) = if i.natAbs.log2 < 1920 then .ok (.str (toString i)) else .bad from rfl] at ok nb
    by_cases h : i.natAbs.log2 < 1920
    · rw [if_pos h] at ok
      exact ⟨i, by rw [rep_int r], h, ok _ rfl _ F H A (Step.refl F H A) s mk_str⟩
    · rw [if_neg h] at nb; exact absurd rfl nb
  | _ => exact absurd rfl nb)
def rTupA (K : PySem.W.Frag) : List V → Hp → VK → Prop := fun xs H Q => ∃ p ys, xs = [.ref p] ∧ ((SqL K H p ys ∧ ∀ l, H l = none → Q (.ref l) (upd H l (.tup ys))) ∨ (SqT K H p ys ∧ Q (.ref p) H))
def oTup1 : D → O
  | .lst xs => .ok (.tup xs)
  | .tup xs => .ok (.tup xs)
  | _ => .bad
abbrev oTup : List D → O := one1 oTup1
theorem vl_tup : VLok G Pn W (rTupA G.K) oTup := vl_one (by
  intro F ρ σ H A x v Q s r ok nb ne
  cases x with
  | lst ys =>
    obtain ⟨a, us, rfl, h, hz, rl⟩ := rep_lst r
    refine ⟨a, us, rfl, .inl ⟨SqL.of (s.sub _ _ h), fun l hl => ?_⟩⟩
    obtain ⟨S2, s2⟩ := s.new (o := .tup us) hl
    exact ok _ rfl _ _ _ A s2 S2 (mk_tup upd_same hz (ra_mono s2.le rl))
  | tup ys =>
    have r0 := r
    obtain ⟨a, us, rfl, h, hz, rl⟩ := rep_tup r
    exact ⟨a, us, rfl, .inr ⟨SqT.of (s.sub _ _ h), ok _ rfl _ F H A (Step.refl F H A) s r0⟩⟩
  | _ => exact absurd rfl nb)
/-- a new list out of a reading of values: owned -/
def dLsO (op : List D → Option (List D)) (fa : Rho → R (List D × Rho)) : Rho → R (Nat × D × Rho) := fun ρ => (fa ρ).bind fun p => match op p.1 with
  | some xs => .ok (1, .lst xs, p.2)
  | none => .bad
theorem to_lsO {ta : TA} {fa : Rho → R (List D × Rho)} {op : List D → Option (List D)} {r : List V → Hp → VK → Prop} (ha : TAok G Pn W ta fa)
    (hr : ∀ (F H : Hp) (xs ys : List D) (vs : List V) (Q : VK), Le F H → RepL G F xs vs → op xs = some ys → (∀ us, RepL G F ys us → us.length ≤ sizeLine → ∀ l, H l = none → Q (.ref l) (upd H l (.lst us))) → r vs H Q) :
    TOok G Pn W (fun σ H Q => ta σ H fun vs H1 => r vs H1 Q) (dLsO op fa) := by
  intro F ρ σ H A Q s ok ex nb
  refine ha F ρ σ H A _ s (fun xs ρ1 e1 vs F1 H1 A1 s1 S1 r1 => ?_) (fun c w ρ1 e1 => ex c w ρ1 (R.bind_exc e1)) (R.bind_bad nb)
  have E1 : dLsO op fa ρ = (match op xs with
    | some xs => .ok (1, .lst xs, ρ1)
    | none => .bad) := R.bind_ok e1
  rw [E1] at ok nb
  cases q : op xs with
  | none => rw [q] at nb; exact absurd rfl nb
  | some ys =>
    rw [q] at ok
    refine hr F1 H1 xs ys vs Q S1.sub r1 q fun us ru hz l hl => ?_
    obtain ⟨S2, s2⟩ := S1.newO (o := .lst us) hl
    refine ok 1 _ ρ1 rfl _ _ _ A1 [l] (s1.trans s2) S2 (tmp_lst S1 hl hz ru) fun a ha => ?_
    rw [List.mem_singleton.mp ha]
    exact s1.back (.inr hl)
/-- [a, b, ..] -/
def opLst (xs : List D) : Option (List D) := if xs.length ≤ most then some xs else none
theorem to_lst {ta : TA} {fa : Rho → R (List D × Rho)} (ha : TAok G Pn W ta fa) : TOok G Pn W (tLst ta) (dLsO opLst fa) := by
  refine to_lsO (r := fun xs H1 Q => xs.length ≤ sizeLine ∧ ∀ p, H1 p = none → Q (.ref p) (upd H1 p (.lst xs))) ha fun F H xs ys vs Q le r e k => ?_
  unfold opLst at e
  by_cases h : xs.length ≤ most
  · rw [if_pos h] at e
    cases e
    have hz : vs.length ≤ sizeLine := by rw [← r.length]; exact most_le h
    exact ⟨hz, fun p hp => k vs r hz p hp⟩
  · rw [if_neg h] at e; cases e
/-- list(x) -/
def rListA (K : PySem.W.Frag) : List V → Hp → VK → Prop := fun xs H Q => ∃ p ys, xs = [.ref p] ∧ (SqL K H p ys ∨ SqT K H p ys) ∧ ∀ l, H l = none → Q (.ref l) (upd H l (.lst ys))
def opList : List D → Option (List D)
  | [.lst xs] => some xs
  | [.tup xs] => some xs
  | _ => none
theorem to_list {ta : TA} {fa : Rho → R (List D × Rho)} (ha : TAok G Pn W ta fa) : TOok G Pn W (tCB (rListA G.K) ta) (dLsO opList fa) := by
  refine to_lsO (r := rListA G.K) ha fun F H xs ys vs Q le r e k => ?_
  unfold opList at e
  split at e
  · cases e
    obtain ⟨v, e0, q1⟩ := repl_one r
    subst e0
    obtain ⟨a, us, rfl, h, hz, rl⟩ := rep_lst q1
    exact ⟨a, us, rfl, .inl (SqL.of (le _ _ h)), fun l hl => k us rl hz l hl⟩
  · cases e
    obtain ⟨v, e0, q1⟩ := repl_one r
    subst e0
    obtain ⟨a, us, rfl, h, hz, rl⟩ := rep_tup q1
    exact ⟨a, us, rfl, .inr (SqT.of (le _ _ h)), fun l hl => k us rl hz l hl⟩
  · cases e
/-- (a, b, ..) -/
def dTup (fa : Rho → R (List D × Rho)) : Rho → R (D × Rho) := fun ρ => (fa ρ).bind fun p => if p.1.length ≤ most then .ok (.tup p.1, p.2) else .bad
theorem te_tup {ta : TA} {fa : Rho → R (List D × Rho)} (ha : TAok G Pn W ta fa) : TEok G Pn W (tTup ta) (dTup fa) := by
  intro F ρ σ H A Q s ok ex nb
  refine ha F ρ σ H A _ s (fun xs ρ1 e1 vs F1 H1 A1 s1 S1 r1 => ?_) (fun c w ρ1 e1 => ex c w ρ1 (R.bind_exc e1)) (R.bind_bad nb)
  have E1 : dTup fa ρ = if xs.length ≤ most then .ok (.tup xs, ρ1) else .bad := R.bind_ok e1
  rw [E1] at ok nb
  by_cases h : xs.length ≤ most
  · rw [if_pos h] at ok
    have hz : vs.length ≤ sizeLine := by rw [← r1.length]; exact most_le h
    refine ⟨hz, fun p hp => ?_⟩
    obtain ⟨S2, s2⟩ := S1.new (o := .tup vs) hp
    exact ok _ ρ1 rfl _ _ _ A1 (s1.trans s2) S2 (mk_tup upd_same hz (ra_mono s2.le r1))
  · rw [if_neg h] at nb; exact absurd rfl nb

/-! ### slices -/
def cutD (xs : List D) (lo hi : Option Int) : List D := (xs.drop (HT.sIx xs.length 0 lo)).take (HT.sIx xs.length xs.length hi - HT.sIx xs.length 0 lo)
theorem cut_rep {F : Hp} {xs : List D} {vs : List V} {lo hi : Option Int} (h : RepL G F xs vs) : RepL G F (cutD xs lo hi) (cutV vs lo hi) := by
  unfold cutD cutV
  rw [h.length]
  exact RepL.take _ (RepL.drop _ h)
theorem cut_ints {ns : List Int} {lo hi : Option Int} : cutV (ns.map V.int) lo hi = (((ns.drop (HT.sIx ns.length 0 lo)).take (HT.sIx ns.length ns.length hi - HT.sIx ns.length 0 lo))).map V.int := by
  unfold cutV
  rw [List.length_map, List.map_take, List.map_drop]
/-- an optional part -/
def TPok (G : Gam) (Pn : Nat → V) (W : WX) (t : TO) (f : Rho → R (Option Int × Rho)) : Prop :=
  ∀ (F : Hp) (ρ : Rho) (σ : L2.St) (H : Hp) (A : Nat → List Addr) (Q : Option Int → Hp → Prop), Sim G Pn F ρ σ H A →
    (∀ o ρ', f ρ = .ok (o, ρ') → ∀ F' H' A', Step F H A F' H' A' → Sim G Pn F' ρ' σ H' A' → Q o H') →
    (∀ c w ρ', f ρ = .exc c w ρ' → ExcOk G Pn W F H A c w ρ') → f ρ ≠ .bad → t σ H Q
def pNone : Rho → R (Option Int × Rho) := fun ρ => .ok (none, ρ)
def asI (ρ : Rho) : D → R (Option Int × Rho)
  | .int i => .ok (some i, ρ)
  | _ => .bad
def pSome (f : Rho → R (D × Rho)) : Rho → R (Option Int × Rho) := fun ρ => (f ρ).bind fun p => asI p.2 p.1
theorem tp_none : TPok G Pn W tNoPart pNone := fun F ρ σ H A Q s ok ex nb => ok none ρ rfl F H A (Step.refl F H A) s
theorem tp_some {t : TE} {f : Rho → R (D × Rho)} (h : TEok G Pn W t f) : TPok G Pn W (tPart t) (pSome f) := by
  intro F ρ σ H A Q s ok ex nb
  refine h F ρ σ H A _ s (fun x ρ1 e1 v F1 H1 A1 s1 S1 r1 => ?_) (fun c w ρ1 e1 => ex c w ρ1 (R.bind_exc e1)) (R.bind_bad nb)
  have E1 : pSome f ρ = asI ρ1 x := R.bind_ok e1
  rw [E1] at ok nb
  cases x with
  | int i => exact ⟨i, rep_int r1, ok _ ρ1 rfl F1 H1 A1 s1 S1⟩
  | _ => exact absurd rfl nb
def rSlAll (K : PySem.W.Frag) : V → Option Int → Option Int → Hp → VK → Prop := fun x lo hi H Q => rSlL K x lo hi H Q ∨ rSlA K x lo hi H Q ∨ (∃ z, x = .str z ∧ z.length ≤ sizeLine ∧ Q (.str (cutS z lo hi)) H)
theorem sl_all {X : Cx} : SlR X (rSlAll X.K) := sl_list.or (sl_tupA.or (by
  intro pins s σ H x v vl vu lo hi sl Q I rx hs pl pu h
  exact sl_str pins s σ H x v vl vu lo hi sl Q I rx hs pl pu h))
def oSl (lo hi : Option Int) : D → O
  | .lst xs => .ok (.lst (cutD xs lo hi))
  | .tup xs => .ok (.tup (cutD xs lo hi))
  | .str z => if z.length ≤ most then .ok (.str (cutS z lo hi)) else .bad
  | .scr ns => .ok (.lst ((((ns.drop (HT.sIx ns.length 0 lo)).take (HT.sIx ns.length ns.length hi - HT.sIx ns.length 0 lo))).map D.int))
  | _ => .bad
def dSl (fe : Rho → R (D × Rho)) (fl fh : Rho → R (Option Int × Rho)) : Rho → R (D × Rho) := fun ρ => (fe ρ).bind fun p => (fl p.2).bind fun q => (fh q.2).bind fun r => (oSl q.1 r.1 p.1).toR r.2
theorem te_sl {te : TE} {tl th : TO} {fe : Rho → R (D × Rho)} {fl fh : Rho → R (Option Int × Rho)} (he : TEok G Pn W te fe) (hl : TPok G Pn W tl fl) (hh : TPok G Pn W th fh) : TEok G Pn W (tSl (rSlAll G.K) te tl th) (dSl fe fl fh) := by
  intro F ρ σ H A Q s ok ex nb
  refine he F ρ σ H A _ s (fun x ρ1 e1 v F1 H1 A1 s1 S1 r1 => ?_) (fun c w ρ1 e1 => ex c w ρ1 (R.bind_exc e1)) (R.bind_bad nb)
  have E1 : dSl fe fl fh ρ = (fl ρ1).bind fun q => (fh q.2).bind fun r => (oSl q.1 r.1 x).toR r.2 := R.bind_ok e1
  rw [E1] at ok ex nb
  refine hl F1 ρ1 σ H1 A1 _ S1 (fun lo ρ2 e2 F2 H2 A2 s2 S2 => ?_) (fun c w ρ2 e2 => (ex c w ρ2 (R.bind_exc e2)).step s1) (R.bind_bad nb)
  have E2 : ((fl ρ1).bind fun q => (fh q.2).bind fun r => (oSl q.1 r.1 x).toR r.2) = (fh ρ2).bind fun r => (oSl lo r.1 x).toR r.2 := R.bind_ok e2
  rw [E2] at ok ex nb
  refine hh F2 ρ2 σ H2 A2 _ S2 (fun hi ρ3 e3 F3 H3 A3 s3 S3 => ?_) (fun c w ρ3 e3 => (ex c w ρ3 (R.bind_exc e3)).step (s1.trans s2)) (R.bind_bad nb)
  have E3 : ((fh ρ2).bind fun r => (oSl lo r.1 x).toR r.2) = (oSl lo hi x).toR ρ3 := R.bind_ok e3
  rw [E3] at ok ex nb
  have r3 : Rep G F3 x v := Rep.mono (s2.le.trans s3.le) x r1
  have s123 := (s1.trans s2).trans s3
  cases x with
  | lst xs =>
    obtain ⟨a, vs, rfl, h, hz, rl⟩ := rep_lst r3
    refine .inl ⟨a, vs, rfl, SqL.of (S3.sub _ _ h), fun p hp => ?_⟩
    obtain ⟨S4, s4⟩ := S3.new (o := .lst (cutV vs lo hi)) hp
    exact ok _ ρ3 rfl _ _ _ A3 (s123.trans s4) S4 (mk_lst upd_same (Nat.le_trans (cutV_length _ _ _) hz) (ra_mono s4.le (cut_rep rl)))
  | tup xs =>
    obtain ⟨a, vs, rfl, h, hz, rl⟩ := rep_tup r3
    refine .inr (.inl ⟨a, vs, rfl, SqT.of (S3.sub _ _ h), fun hw => ?_, fun hw p hp => ?_⟩)
    · refine ok _ ρ3 rfl _ F3 H3 A3 s123 S3 ?_
      have : cutD xs lo hi = xs := by
        unfold cutD
        rw [rl.length, hw.1, hw.2, List.drop_zero, Nat.sub_zero, ← rl.length, List.take_length]
      rw [this]
      exact mk_tup h hz rl
    · obtain ⟨S4, s4⟩ := S3.new (o := .tup (cutV vs lo hi)) hp
      exact ok _ ρ3 rfl _ _ _ A3 (s123.trans s4) S4 (mk_tup upd_same (Nat.le_trans (cutV_length _ _ _) hz) (ra_mono s4.le (cut_rep rl)))
  | str z =>
    rw [show oSl lo hi (.str z) = if z.length ≤ most then .ok (.str (cutS z lo hi)) else .bad from rfl] at ok nb
    by_cases hz : z.length ≤ most
    · rw [if_pos hz] at ok
      exact .inr (.inr ⟨z, rep_str r3, most_le hz, ok _ ρ3 rfl _ F3 H3 A3 s123 S3 mk_str⟩)
    · rw [if_neg hz] at nb; exact absurd rfl nb
  | scr ns =>
    unfold Rep at r3
    obtain ⟨a, rfl, h, hz⟩ := r3
    refine .inl ⟨a, _, rfl, S3.sub.sql h, fun p hp => ?_⟩
    rw [cut_ints]
    obtain ⟨S4, s4⟩ := S3.new (o := .lst (((ns.drop (HT.sIx ns.length 0 lo)).take (HT.sIx ns.length ns.length hi - HT.sIx ns.length 0 lo)).map V.int)) hp
    refine ok _ ρ3 rfl _ _ _ A3 (s123.trans s4) S4 (mk_lst upd_same ?_ (repL_ints _))
    rw [List.length_map, List.length_take, List.length_drop]
    omega
  | _ => exact absurd rfl nb

/-! ### fields -/
/-- the j-th field -/
def oFld (j : Nat) : D → O
  | .ins _ fs => .ofD fs[j]?
  | _ => .bad
theorem zip_look {f : Str} : ∀ {ns : List Str} {vs : List V} {j : Nat} {v : V}, ns.Nodup → ns[j]? = some f → vs[j]? = some v → (ns.zip vs).lookup f = some v
  | [], _, j, v, _, h, _ => by simp at h
  | n :: ns, [], j, v, _, _, h => by simp at h
  | n :: ns, w :: vs, 0, v, _, h, h2 => by
    simp at h h2
    subst h h2
    rw [List.zip_cons_cons, List.lookup_cons]
    simp
  | n :: ns, w :: vs, j + 1, v, hn, h, h2 => by
    rw [List.getElem?_cons_succ] at h h2
    rw [List.nodup_cons] at hn
    have hne : ¬ f = n := fun z => hn.1 (z ▸ List.mem_of_getElem? h)
    rw [List.zip_cons_cons, List.lookup_cons]
    have : (f == n) = false := by simpa using hne
    rw [this]
    exact zip_look hn.2 h h2
/-- what is known of a class -/
structure ClsOk (G : Gam) (c : Nat) : Prop where
  cl : Cls G.K (G.cl c)
  nd : (G.nm c).Nodup
  few : (G.nm c).length < 1000
  no : ∀ f ∈ G.nm c, NoAttr G.K (G.cl c) f
/-- a field read of a frozen thing whose class is one of a list -/
def oFldN (cs : List Nat) (f : Str) (nm : Nat → List Str) : D → O
  | .ins c fs => if c ∈ cs then .ofD (fs[(nm c).idxOf f]?) else .bad
  | _ => .bad
def dFld (cs : List Nat) (f : Str) (nm : Nat → List Str) (fa : Rho → R (D × Rho)) : Rho → R (D × Rho) := fun ρ => (fa ρ).bind fun p => (oFldN cs f nm p.1).toR p.2
theorem idx_get {f : Str} {l : List Str} (h : f ∈ l) : l[l.idxOf f]? = some f := by
  have hi := List.idxOf_lt_length_of_mem h
  rw [List.getElem?_eq_getElem hi, List.getElem_idxOf hi]
theorem te_fld {cs : List Nat} {f : Str} {ta : TE} {fa : Rho → R (D × Rho)} (hc : ∀ c ∈ cs, ClsOk G c ∧ f ∈ G.nm c) (ha : TEok G Pn W ta fa) : TEok G Pn W (tFld G.K ta f) (dFld cs f G.nm fa) := by
  intro F ρ σ H A Q s ok ex nb
  refine ha F ρ σ H A _ s (fun x ρ1 e1 v F1 H1 A1 s1 S1 r1 => ?_) (fun c w ρ1 e1 => ex c w ρ1 (R.bind_exc e1)) (R.bind_bad nb)
  have E1 : dFld cs f G.nm fa ρ = (oFldN cs f G.nm x).toR ρ1 := R.bind_ok e1
  rw [E1] at ok nb
  cases x with
  | ins c fs =>
    rw [show oFldN cs f G.nm (.ins c fs) = if c ∈ cs then .ofD (fs[(G.nm c).idxOf f]?) else .bad from rfl] at ok nb
    by_cases h : c ∈ cs
    · rw [if_pos h] at ok nb
      cases q : fs[(G.nm c).idxOf f]? with
      | none => rw [q] at nb; exact absurd rfl nb
      | some d =>
        rw [q] at ok
        obtain ⟨a, dx, vs, rfl, hF, hl, rl⟩ := rep_ins r1
        obtain ⟨w, hw, rw'⟩ := rl.get' q
        obtain ⟨k, hf⟩ := hc c h
        exact ⟨a, G.cl c, dx, _, w, rfl, S1.sub _ _ hF, k.cl, k.no f hf, zip_look k.nd (idx_get hf) hw, ok _ ρ1 rfl _ F1 H1 A1 s1 S1 rw'⟩
    · rw [if_neg h] at nb; exact absurd rfl nb
  | _ => exact absurd rfl nb

/-! ### truth -/
def truD : D → Option Bool
  | .non => some false
  | .bl b => some b
  | .int i => some (i != 0)
  | .str z => if z.length ≤ most then some ((z.length : Int) != 0) else none
  | .lst xs => some (!xs.isEmpty)
  | .tup xs => some (!xs.isEmpty)
  | _ => none
theorem isEmpty_rep {F : Hp} {xs : List D} {vs : List V} (h : RepL G F xs vs) : (!vs.isEmpty) = !xs.isEmpty := by
  have := h.length
  cases xs <;> cases vs <;> first | rfl | simp at this
theorem tr_plain : TRok G Pn (fun x H Q => ∃ k, TruV G.K x H k ∧ Q k H) truD := by
  intro F ρ σ H A x v b Q s r e k
  have fin : ∀ {kk}, TruV G.K v H kk → kk = b → ∃ k, TruV G.K v H k ∧ Q k H := fun {kk} h1 h2 => ⟨kk, h1, by rw [h2]; exact k F H A (Step.refl F H A) s⟩
  cases x with
  | non => cases e; rw [rep_non r] at fin ⊢; exact fin (kk := false) rfl rfl
  | bl c => cases e; rw [rep_bl r] at fin ⊢; exact fin (kk := b) rfl rfl
  | int i => cases e; rw [rep_int r] at fin ⊢; exact fin (kk := (i != 0)) rfl rfl
  | str z =>
    rw [show truD (.str z) = if z.length ≤ most then some ((z.length : Int) != 0) else none from rfl] at e
    by_cases h : z.length ≤ most
    · rw [if_pos h] at e
      cases e
      rw [rep_str r] at fin ⊢
      exact fin ⟨most_le h, rfl⟩ rfl
    · rw [if_neg h] at e; cases e
  | lst xs =>
    cases e
    obtain ⟨a, vs, rfl, h, hz, rl⟩ := rep_lst r
    exact fin (.inl ⟨vs, SqL.of (s.sub _ _ h), rfl⟩) (isEmpty_rep rl)
  | tup xs =>
    cases e
    obtain ⟨a, vs, rfl, h, hz, rl⟩ := rep_tup r
    exact fin (.inr (.inl ⟨vs, SqT.of (s.sub _ _ h), rfl⟩)) (isEmpty_rep rl)
  | ins _ _ => cases e
  | scr _ => cases e

/-! ### what a slot owns: read, written -/
def ownL (j : Nat) (ρ : Rho) : Option (Bool × List D) := match ρ[j]? with
  | some (.own io 1 (.lst xs)) => some (io, xs)
  | _ => none
theorem ownL_of {j : Nat} {ρ : Rho} {io : Bool} {xs : List D} (h : ownL j ρ = some (io, xs)) : ρ[j]? = some (.own io 1 (.lst xs)) := by
  unfold ownL at h
  split at h
  · rename_i io' xs' e
    cases h
    exact e
  · cases h
theorem Sim.ownL {F H : Hp} {ρ : Rho} {σ : L2.St} {A : Nat → List Addr} (s : Sim G Pn F ρ σ H A) {j : Nat} {io : Bool} {xs : List D} (h : DL.ownL j ρ = some (io, xs)) :
    ∃ a vs, σ[j]? = some (some (.ref a)) ∧ H a = some (.lst vs) ∧ vs.length ≤ sizeLine ∧ RepL G F xs vs ∧ A j = [a] := by
  obtain ⟨v, ev, _, ow⟩ := s.own (ownL_of h)
  unfold Own at ow
  rcases ow with ⟨z, _⟩ | ⟨k', a, vs, l', hk, rfl, ha, hz, ol, hl⟩
  · cases z
  · have : k' = 0 := by omega
    subst this
    obtain ⟨rl, rfl⟩ := OwnL.zero.mp ol
    exact ⟨a, vs, ev, ha, hz, rl, hl⟩
theorem own_lst {F H : Hp} {a : Addr} {xs : List D} {vs : List V} (h : H a = some (.lst vs)) (hz : vs.length ≤ sizeLine) (r : RepL G F xs vs) : Own G F H (.lst xs) 1 (.ref a) [a] := by
  unfold Own
  exact .inr ⟨0, a, vs, [], rfl, rfl, h, hz, OwnL.zero.mpr ⟨r, rfl⟩, rfl⟩
/-- the list that slot j owns is changed to ys -/
theorem Sim.setL {F H : Hp} {ρ : Rho} {σ : L2.St} {A : Nat → List Addr} (s : Sim G Pn F ρ σ H A) {j : Nat} {io : Bool} {xs ys : List D} {a : Addr} {us : List V} (h : DL.ownL j ρ = some (io, xs)) (hv : σ[j]? = some (some (.ref a))) (hA : A j = [a])
    (hz : us.length ≤ sizeLine) (r : RepL G F ys us) : Sim G Pn F (ρ.set j (.own io 1 (.lst ys))) σ (upd H a (.lst us)) (updA A j [a]) ∧ Step F H A F (upd H a (.lst us)) (updA A j [a]) := by
  refine s.write (ownL_of h) hv (fun b o e n => ?_) (own_lst upd_same hz r) (by simp) fun b hb => .inl (by rw [hA]; exact hb)
  rw [upd_ne (fun z => n (by rw [z, hA]; exact List.mem_singleton.mpr rfl))]
  exact e
/-- x[i], x slot j's -/
def dOwnIx (j : Nat) (fi : Rho → R (D × Rho)) : Rho → R (D × Rho) := fun ρ => match ownL j ρ with
  | none => .bad
  | some _ => (fi ρ).bind fun p => match ownL j p.2, p.1 with
    | some (_, xs), .int i => (O.ofD (L2.atI xs i)).toR p.2
    | _, _ => .bad
theorem te_ownIx {j : Nat} {ti : TE} {fi : Rho → R (D × Rho)} (hi : TEok G Pn W ti fi) : TEok G Pn W (tOp (rIx G.K) (tVar j) ti) (dOwnIx j fi) := by
  intro F ρ σ H A Q s ok ex nb
  unfold dOwnIx at ok ex nb
  cases q0 : ownL j ρ with
  | none => rw [q0] at nb; exact absurd rfl nb
  | some p0 =>
    rw [q0] at ok ex nb
    dsimp only at ok ex nb
    obtain ⟨a, vs0, ev, _, _, _, _⟩ := s.ownL (io := p0.1) (xs := p0.2) q0
    refine ⟨.ref a, ev, ?_⟩
    refine hi F ρ σ H A _ s (fun x ρ1 e1 v F1 H1 A1 s1 S1 r1 => ?_) (fun c w ρ1 e1 => ex c w ρ1 (R.bind_exc e1)) (R.bind_bad nb)
    rw [R.bind_ok e1] at ok ex nb
    dsimp only at ok ex nb
    cases q1 : ownL j ρ1 with
    | none => rw [q1] at nb; exact absurd rfl nb
    | some p1 =>
      obtain ⟨io, xs⟩ := p1
      rw [q1] at ok nb
      cases x with
      | int i =>
        dsimp only at ok nb
        obtain ⟨a', vs, ev', ha, hz, rl, _⟩ := S1.ownL q1
        rw [ev] at ev'
        cases ev'
        cases q : L2.atI xs i with
        | none => rw [q] at nb; exact absurd rfl nb
        | some d =>
          rw [q] at ok
          obtain ⟨w, hw, rw'⟩ := rl.atI q
          exact .inl ⟨a, vs, i, w, rfl, rep_int r1, SqL.of ha, hw, ok _ ρ1 rfl _ F1 H1 A1 s1 S1 rw'⟩
      | _ => exact absurd rfl nb
/-- len(x), x slot j's -/
def dOwnLen (j : Nat) : Rho → R (D × Rho) := fun ρ => match ownL j ρ with
  | none => .bad
  | some (_, xs) => .ok (.int (xs.length : Int), ρ)
theorem te_ownLen {j : Nat} : TEok G Pn W (tCB (rLenA G.K) (tCons (tVar j) tNil)) (dOwnLen j) := by
  intro F ρ σ H A Q s ok ex nb
  unfold dOwnLen at ok ex nb
  cases q0 : ownL j ρ with
  | none => rw [q0] at nb; exact absurd rfl nb
  | some p0 =>
    obtain ⟨io, xs⟩ := p0
    rw [q0] at ok
    obtain ⟨a, vs, ev, ha, hz, rl, _⟩ := s.ownL q0
    exact ⟨.ref a, ev, .inl ⟨a, vs, rfl, .inl (SqL.of ha), by
      rw [← rl.length]
      exact ok _ ρ rfl _ F H A (Step.refl F H A) s mk_int⟩⟩
/-- x[a:b], x slot j's: a new list -/
def dOwnSl (j : Nat) (fl fh : Rho → R (Option Int × Rho)) : Rho → R (D × Rho) := fun ρ => match ownL j ρ with
  | none => .bad
  | some _ => (fl ρ).bind fun q => (fh q.2).bind fun r => match ownL j r.2 with
    | none => .bad
    | some (_, xs) => .ok (.lst (cutD xs q.1 r.1), r.2)
theorem te_ownSl {j : Nat} {tl th : TO} {fl fh : Rho → R (Option Int × Rho)} (hl : TPok G Pn W tl fl) (hh : TPok G Pn W th fh) : TEok G Pn W (tSl (rSlAll G.K) (tVar j) tl th) (dOwnSl j fl fh) := by
  intro F ρ σ H A Q s ok ex nb
  unfold dOwnSl at ok ex nb
  cases q0 : ownL j ρ with
  | none => rw [q0] at nb; exact absurd rfl nb
  | some p0 =>
    rw [q0] at ok ex nb
    dsimp only at ok ex nb
    obtain ⟨a, vs0, ev, _, _, _, _⟩ := s.ownL (io := p0.1) (xs := p0.2) q0
    refine ⟨.ref a, ev, ?_⟩
    refine hl F ρ σ H A _ s (fun lo ρ1 e1 F1 H1 A1 s1 S1 => ?_) (fun c w ρ1 e1 => ex c w ρ1 (R.bind_exc e1)) (R.bind_bad nb)
    rw [R.bind_ok e1] at ok ex nb
    dsimp only at ok ex nb
    refine hh F1 ρ1 σ H1 A1 _ S1 (fun hi ρ2 e2 F2 H2 A2 s2 S2 => ?_) (fun c w ρ2 e2 => (ex c w ρ2 (R.bind_exc e2)).step s1) (R.bind_bad nb)
    rw [R.bind_ok e2] at ok ex nb
    dsimp only at ok ex nb
    cases q1 : ownL j ρ2 with
    | none => rw [q1] at nb; exact absurd rfl nb
    | some p1 =>
      obtain ⟨io, xs⟩ := p1
      rw [q1] at ok
      dsimp only at ok
      obtain ⟨a', vs, ev', ha, hz, rl, _⟩ := S2.ownL q1
      rw [ev] at ev'
      cases ev'
      refine .inl ⟨a, vs, rfl, SqL.of ha, fun p hp => ?_⟩
      obtain ⟨S4, s4⟩ := S2.new (o := .lst (cutV vs lo hi)) hp
      exact ok _ ρ2 rfl _ _ _ A2 ((s1.trans s2).trans s4) S4 (mk_lst upd_same (Nat.le_trans (cutV_length _ _ _) hz) (ra_mono s4.le (cut_rep rl)))
/-- x[i] = e, x slot j's: e, then x, then i -/
def sOwnSet (j : Nat) (fe fi : Rho → R (D × Rho)) : Rho → S := fun ρ => (fe ρ).thn fun p => match ownL j p.2 with
  | none => .bad
  | some _ => (fi p.2).thn fun q => match ownL j q.2, q.1 with
    | some (io, xs), .int i => (match ixN xs.length i with
      | some m => .nx (q.2.set j (.own io 1 (.lst (xs.set m p.1))))
      | none => .bad)
    | _, _ => .bad
theorem ts_ownSet {j : Nat} {te ti : TE} {fe fi : Rho → R (D × Rho)} (he : TEok G Pn W te fe) (hi : TEok G Pn W ti fi) : TSok G Pn W (tAsg te (gSub (tVar j) ti rSetL)) (sOwnSet j fe fi) := by
  intro F ρ σ H A E s nx bk ct rt ex nb
  refine he F ρ σ H A _ s (fun d ρ1 e1 v F1 H1 A1 s1 S1 r1 => ?_) (fun c w ρ1 e1 => ex c w ρ1 (R.thn_exc e1)) (R.thn_bad nb)
  have E1 : sOwnSet j fe fi ρ = (match ownL j ρ1 with
  | none => .bad
  | some _ => (fi ρ1).thn fun q => match ownL j q.2, q.1 with
    | some (io, xs), .int i => (match ixN xs.length i with
      | some m => .nx (q.2.set j (.own io 1 (.lst (xs.set m d))))
      | none => .bad)
    | _, _ => .bad) := R.thn_ok e1
  rw [E1] at nx bk ct rt ex nb
  cases q0 : ownL j ρ1 with
  | none => rw [q0] at nb; exact absurd rfl nb
  | some p0 =>
    rw [q0] at nx ex nb
    dsimp only at nx ex nb
    obtain ⟨a, vs0, ev, _, _, _, _⟩ := S1.ownL (io := p0.1) (xs := p0.2) q0
    refine ⟨.ref a, ev, ?_⟩
    refine hi F1 ρ1 σ H1 A1 _ S1 (fun x ρ2 e2 w F2 H2 A2 s2 S2 r2 => ?_) (fun c w ρ2 e2 => (ex c w ρ2 (R.thn_exc e2)).step s1) (R.thn_bad nb)
    rw [R.thn_ok e2] at nx nb
    dsimp only at nx nb
    cases q1 : ownL j ρ2 with
    | none => rw [q1] at nb; exact absurd rfl nb
    | some p1 =>
      obtain ⟨io, xs⟩ := p1
      rw [q1] at nx nb
      cases x with
      | int i =>
        dsimp only at nx nb
        cases q : ixN xs.length i with
        | none => rw [q] at nb; exact absurd rfl nb
        | some m =>
          rw [q] at nx
          obtain ⟨a', vs, ev', ha, hz, rl, hA⟩ := S2.ownL q1
          rw [ev] at ev'
          cases ev'
          obtain ⟨S3, s3⟩ := S2.setL (us := vs.set m v) q1 ev hA (by rw [List.length_set]; exact hz) (rl.set m (Rep.mono s2.le d r1))
          exact ⟨a, vs, i, m, rfl, rep_int r2, ha, by rw [← rl.length]; exact q, nx _ rfl σ F2 _ _ ((s1.trans s2).trans s3) S3⟩
      | _ => exact absurd rfl nb
/-- x.append(e) -/
def dAppend (j : Nat) (fe : Rho → R (D × Rho)) : Rho → R (D × Rho) := fun ρ => match ownL j ρ with
  | none => .bad
  | some _ => (fe ρ).bind fun p => match ownL j p.2 with
    | none => .bad
    | some (io, xs) => if xs.length < most then .ok (.non, p.2.set j (.own io 1 (.lst (xs ++ [p.1])))) else .bad
theorem te_append {j : Nat} {te : TE} {fe : Rho → R (D × Rho)} (he : TEok G Pn W te fe) : TEok G Pn W (tBM G.K "list" rAppend (tVar j) (tCons te tNil)) (dAppend j fe) := by
  intro F ρ σ H A Q s ok ex nb
  unfold dAppend at ok ex nb
  cases q0 : ownL j ρ with
  | none => rw [q0] at nb; exact absurd rfl nb
  | some p0 =>
    rw [q0] at ok ex nb
    dsimp only at ok ex nb
    obtain ⟨a, vs0, ev, ha0, _, _, _⟩ := s.ownL (io := p0.1) (xs := p0.2) q0
    refine ⟨.ref a, ev, Or.inl ⟨rfl, vs0, SqL.of ha0⟩, ?_⟩
    refine he F ρ σ H A _ s (fun d ρ1 e1 v F1 H1 A1 s1 S1 r1 => ?_) (fun c w ρ1 e1 => ex c w ρ1 (R.bind_exc e1)) (R.bind_bad nb)
    rw [R.bind_ok e1] at ok nb
    dsimp only at ok nb
    cases q1 : ownL j ρ1 with
    | none => rw [q1] at nb; exact absurd rfl nb
    | some p1 =>
      obtain ⟨io, xs⟩ := p1
      rw [q1] at ok nb
      dsimp only at ok nb
      by_cases hm : xs.length < most
      · rw [if_pos hm] at ok
        obtain ⟨a', vs, ev', ha, hz, rl, hA⟩ := S1.ownL q1
        rw [ev] at ev'
        cases ev'
        have hz2 : vs.length < sizeLine := by rw [← rl.length]; exact most_le hm
        obtain ⟨S3, s3⟩ := S1.setL (us := vs ++ [v]) q1 ev hA (by rw [List.length_append, List.length_singleton]; exact hz2) (rl.append (RepL.one r1))
        exact ⟨a, vs, v, rfl, rfl, ha, hz2, ok _ _ rfl _ F1 _ _ (s1.trans s3) S3 mk_non⟩
      · rw [if_neg hm] at nb; exact absurd rfl nb
/-- x.pop() -/
def dPop (j : Nat) : Rho → R (D × Rho) := fun ρ => match ownL j ρ with
  | none => .bad
  | some (io, xs) => match xs[xs.length - 1]? with
    | some d => .ok (d, ρ.set j (.own io 1 (.lst xs.dropLast)))
    | none => .bad
theorem RepL.dropLast {F : Hp} {ds : List D} {vs : List V} (h : RepL G F ds vs) : RepL G F ds.dropLast vs.dropLast := by
  rw [List.dropLast_eq_take, List.dropLast_eq_take, h.length]
  exact RepL.take _ h
theorem te_pop {j : Nat} : TEok G Pn W (tBM0 G.K "list" rPop (tVar j)) (dPop j) := by
  intro F ρ σ H A Q s ok ex nb
  unfold dPop at ok ex nb
  cases q0 : ownL j ρ with
  | none => rw [q0] at nb; exact absurd rfl nb
  | some p0 =>
    obtain ⟨io, xs⟩ := p0
    rw [q0] at ok nb
    dsimp only at ok nb
    cases q : xs[xs.length - 1]? with
    | none => rw [q] at nb; exact absurd rfl nb
    | some d =>
      rw [q] at ok
      dsimp only at ok
      obtain ⟨a, vs, ev, ha, hz, rl, hA⟩ := s.ownL q0
      obtain ⟨w, hw, rw'⟩ := rl.get' q
      obtain ⟨S3, s3⟩ := s.setL (us := vs.dropLast) q0 ev hA (by rw [List.length_dropLast]; omega) rl.dropLast
      exact ⟨.ref a, ev, Or.inl ⟨rfl, vs, SqL.of ha⟩, a, vs, w, rfl, rfl, ha, by rw [← rl.length]; exact hw, ok _ _ rfl _ F _ _ s3 S3 rw'⟩
/-- x.extend(e) -/
def dExtend (j : Nat) (fe : Rho → R (D × Rho)) : Rho → R (D × Rho) := fun ρ => match ownL j ρ with
  | none => .bad
  | some _ => (fe ρ).bind fun p => match ownL j p.2, p.1 with
    | some (io, xs), .lst ys => if xs.length + ys.length ≤ most then .ok (.non, p.2.set j (.own io 1 (.lst (xs ++ ys)))) else .bad
    | _, _ => .bad
theorem te_extend {j : Nat} {te : TE} {fe : Rho → R (D × Rho)} (he : TEok G Pn W te fe) : TEok G Pn W (tBM G.K "list" rExtend (tVar j) (tCons te tNil)) (dExtend j fe) := by
  intro F ρ σ H A Q s ok ex nb
  unfold dExtend at ok ex nb
  cases q0 : ownL j ρ with
  | none => rw [q0] at nb; exact absurd rfl nb
  | some p0 =>
    rw [q0] at ok ex nb
    dsimp only at ok ex nb
    obtain ⟨a, vs0, ev, ha0, _, _, _⟩ := s.ownL (io := p0.1) (xs := p0.2) q0
    refine ⟨.ref a, ev, Or.inl ⟨rfl, vs0, SqL.of ha0⟩, ?_⟩
    refine he F ρ σ H A _ s (fun d ρ1 e1 v F1 H1 A1 s1 S1 r1 => ?_) (fun c w ρ1 e1 => ex c w ρ1 (R.bind_exc e1)) (R.bind_bad nb)
    rw [R.bind_ok e1] at ok nb
    dsimp only at ok nb
    cases q1 : ownL j ρ1 with
    | none => rw [q1] at nb; exact absurd rfl nb
    | some p1 =>
      obtain ⟨io, xs⟩ := p1
      rw [q1] at ok nb
      cases d with
      | lst ys =>
        dsimp only at ok nb
        by_cases hm : xs.length + ys.length ≤ most
        · rw [if_pos hm] at ok
          obtain ⟨a', vs, ev', ha, hz, rl, hA⟩ := S1.ownL q1
          rw [ev] at ev'
          cases ev'
          obtain ⟨b, us, rfl, hb, hzb, rb⟩ := rep_lst r1
          have hz2 : vs.length + us.length ≤ sizeLine := by rw [← rl.length, ← rb.length]; exact most_le hm
          obtain ⟨S3, s3⟩ := S1.setL (us := vs ++ us) q1 ev hA (by rw [List.length_append]; exact hz2) (rl.append rb)
          exact ⟨a, b, vs, us, rfl, rfl, ha, S1.sub _ _ hb, hz2, ok _ _ rfl _ F1 _ _ (s1.trans s3) S3 mk_non⟩
        · rw [if_neg hm] at nb; exact absurd rfl nb
      | _ => exact absurd rfl nb
/-- a, b = x, y: two local names -/
def sPar (i j : Nat) (fa fb : Rho → R (D × Rho)) : Rho → S := fun ρ => (fa ρ).thn fun p => (fb p.2).thn fun q => .ofO ((putFro i p.1 q.2).bind (putFro j q.1))
theorem ts_par {i j : Nat} {ta tb : TE} {fa fb : Rho → R (D × Rho)} (ha : TEok G Pn W ta fa) (hb : TEok G Pn W tb fb) : TSok G Pn W (tPar i j (tCons ta (tCons tb tNil))) (sPar i j fa fb) := by
  intro F ρ σ H A E s nx bk ct rt ex nb
  refine ha F ρ σ H A _ s (fun x ρ1 e1 v F1 H1 A1 s1 S1 r1 => ?_) (fun c w ρ1 e1 => ex c w ρ1 (R.thn_exc e1)) (R.thn_bad nb)
  have E1 : sPar i j fa fb ρ = (fb ρ1).thn fun q => .ofO ((putFro i x q.2).bind (putFro j q.1)) := R.thn_ok e1
  rw [E1] at nx ex nb
  refine hb F1 ρ1 σ H1 A1 _ S1 (fun y ρ2 e2 u F2 H2 A2 s2 S2 r2 => ?_) (fun c w ρ2 e2 => (ex c w ρ2 (R.thn_exc e2)).step s1) (R.thn_bad nb)
  rw [R.thn_ok e2] at nx nb
  dsimp only at nx nb
  refine ⟨v, u, rfl, ?_⟩
  cases q : putFro i x ρ2 with
  | none => rw [q] at nb; exact absurd rfl nb
  | some ρ3 =>
    rw [q] at nx nb
    rw [Option.bind_some] at nx nb
    cases q2 : putFro j y ρ3 with
    | none => rw [q2] at nb; exact absurd rfl nb
    | some ρ4 =>
      rw [q2] at nx
      obtain ⟨hi, e3⟩ := putFro_lt q
      subst e3
      obtain ⟨hj, e4⟩ := putFro_lt q2
      subst e4
      have S3 := S2.putFro hi (Rep.mono s2.le x r1)
      have S4 := S3.putFro hj r2
      exact nx _ rfl _ F2 H2 _ (((s1.trans s2).trans Step.drop).trans Step.drop) S4
end
end DL
end
noncomputable section
set_option maxRecDepth 100000
set_option maxHeartbeats 400000
/-! ## DL8: the rules by form -/
namespace DL
open PySem PySem.Spec PyProof.Rows L2

section
variable {C : Cxt}

/-! ### names, constants -/
theorem qv (j : Nat) {x : Str} {pos : Pos} (hN : ∀ i, (C.X i).N[j]? = some x := by intro _; rfl) (hv : ∀ i, Vis (C.X i).env.scope x := by intro _; first | exact Or.inl rfl | exact Or.inr (Or.inl rfl) | exact Or.inr (Or.inr rfl)) (hd : (x == ("__debug__" : Str)) = false := by decide)
    (hcd : (x == ("__classdict__" : Str)) = false := by decide) : QX C (.Name x pos) (dVar j) := ⟨tVar j, fun i => pe_var (hN i) (hv i) hd hcd, te_var⟩
theorem q_move (j : Nat) {x : Str} {pos : Pos} (hN : ∀ i, (C.X i).N[j]? = some x := by intro _; rfl) (hv : ∀ i, Vis (C.X i).env.scope x := by intro _; first | exact Or.inl rfl | exact Or.inr (Or.inl rfl) | exact Or.inr (Or.inr rfl)) (hd : (x == ("__debug__" : Str)) = false := by decide)
    (hcd : (x == ("__classdict__" : Str)) = false := by decide) : QO C (.Name x pos) (dMove j) := ⟨tVar j, fun i => pe_var (hN i) (hv i) hd hcd, to_move⟩
theorem q_int {n : Int} {j pos} : QX C (.Constant (.int n) j pos) (dC (.int n)) := ⟨tC (.int n), fun i => pe_int, te_c fun _ => mk_int⟩
theorem q_bl {b : Bool} {j pos} : QX C (.Constant (.bool b) j pos) (dC (.bl b)) := ⟨tC (.bl b), fun i => pe_bl, te_c fun _ => mk_bl⟩
theorem q_non {j pos} : QX C (.Constant .none j pos) (dC .non) := ⟨tC .non, fun i => pe_non, te_c fun _ => mk_non⟩
theorem q_str {x : Str} {j pos} : QX C (.Constant (.str x) j pos) (dC (.str x)) := ⟨tC (.str x), fun i => pe_str, te_c fun _ => mk_str⟩
/-- a module's text -/
theorem q_gstr {x : Str} {z : Str} {t : Tok} {pos : Pos} (hm : C.mg x = some (.str z t)) (hg : ∀ i, Gl (C.X i) x := by intro _; rfl) (hd : (x == ("__debug__" : Str)) = false := by decide) : QX C (.Name x pos) (dC (.str z)) :=
  ⟨tC (.str z), fun i => pe_glob (hg i) ((congrFun (C.hm i) x).trans hm) ⟨t, rfl⟩ hd, te_c fun _ => mk_str⟩
theorem q_gint {x : Str} {n : Int} {t : Tok} {pos : Pos} (hm : C.mg x = some (.int n t)) (hg : ∀ i, Gl (C.X i) x := by intro _; rfl) (hd : (x == ("__debug__" : Str)) = false := by decide) : QX C (.Name x pos) (dC (.int n)) :=
  ⟨tC (.int n), fun i => pe_glob (hg i) ((congrFun (C.hm i) x).trans hm) ⟨t, rfl⟩ hd, te_c fun _ => mk_int⟩
theorem q_fr {e : Expr} {f : Rho → R (Nat × D × Rho)} (h : QO C e f) : QX C e (dFr f) := let ⟨t, a, b⟩ := h; ⟨t, a, te_fr b⟩

/-! ### operators -/
section
variable {a b : Expr} {fa fb : Rho → R (D × Rho)} {pos : Pos}
theorem q_opK {op : Operator} {r : PySem.W.Frag → R2} {f : D → D → O} (ho : ∀ X : Cx, OpR X (binaryOp op) (r X.K)) (hf : V2ok C.G C.Pn C.W (r C.G.K) f) (ha : QX C a fa) (hb : QX C b fb) : QX C (.BinOp a op b pos) (dOp f fa fb) := by
  obtain ⟨ta, a1, a2⟩ := ha
  obtain ⟨tb, b1, b2⟩ := hb
  exact ⟨tOp (r C.G.K) ta tb, fun i => by have h := pe_op (pos := pos) (ho (C.X i)) (a1 i) (b1 i); rw [C.hK i] at h; exact h, te_op hf a2 b2⟩
theorem q_cmpK {op : CmpOp} {r : PySem.W.Frag → R2} {f : D → D → O} (ho : ∀ i, OpR (C.X i) (compareOp op) (r (C.X i).K)) (hf : V2ok C.G C.Pn C.W (r C.G.K) f) (ha : QX C a fa) (hb : QX C b fb) (hm : behindInMarks op b = false) : QX C (.Compare a [op] [b] pos) (dOp f fa fb) := by
  obtain ⟨ta, a1, a2⟩ := ha
  obtain ⟨tb, b1, b2⟩ := hb
  exact ⟨tOp (r C.G.K) ta tb, fun i => by have h := pe_cmpR (pos := pos) (ho i) (a1 i) (b1 i) hm; rw [C.hK i] at h; exact h, te_op hf a2 b2⟩
theorem qt_cmpK {op : CmpOp} {r : PySem.W.Frag → R2} {f : D → D → O} (ho : ∀ i, OpR (C.X i) (compareOp op) (r (C.X i).K)) (hf : V2ok C.G C.Pn C.W (r C.G.K) f) (ha : QX C a fa) (hb : QX C b fb) (hm : behindInMarks op b = false) : QT C (.Compare a [op] [b] pos) (dB (dOp f fa fb)) := by
  obtain ⟨ta, a1, a2⟩ := ha
  obtain ⟨tb, b1, b2⟩ := hb
  exact ⟨tTest (tOp (r C.G.K) ta tb), fun i => by have h := pt_cmpR (pos := pos) (ho i) (a1 i) (b1 i) hm; rw [C.hK i] at h; exact h, tt_test (te_op hf a2 b2)⟩
theorem q_add (ha : QX C a fa) (hb : QX C b fb) : QX C (.BinOp a .Add b pos) (dOp oAdd fa fb) := q_opK (r := rAddA) (fun _ => op_addA) v2_add ha hb
theorem q_cat (ha : QX C a fa) (hb : QX C b fb) : QO C (.BinOp a .Add b pos) (dCatO fa fb) := by
  obtain ⟨ta, a1, a2⟩ := ha
  obtain ⟨tb, b1, b2⟩ := hb
  exact ⟨tOp (rAddA C.G.K) ta tb, fun i => by have h := pe_op (pos := pos) (op_addA (X := C.X i)) (a1 i) (b1 i); rw [C.hK i] at h; exact h, to_cat a2 b2⟩
theorem q_sub (ha : QX C a fa) (hb : QX C b fb) : QX C (.BinOp a .Sub b pos) (dOp oSub fa fb) := q_opK (r := fun _ => _) (fun _ => op_sub) v2_sub ha hb
theorem q_mul (ha : QX C a fa) (hb : QX C b fb) : QX C (.BinOp a .Mult b pos) (dOp oMulI fa fb) := q_opK (r := fun _ => _) (fun _ => op_mulX) (v2_I (fun _ _ h => h) fun _ _ _ => mk_int) ha hb
theorem q_div (ha : QX C a fa) (hb : QX C b fb) : QX C (.BinOp a .FloorDiv b pos) (dOp oDiv fa fb) := q_opK (r := fun _ => _) (fun _ => op_divX) v2_div ha hb
theorem q_mod (ha : QX C a fa) (hb : QX C b fb) : QX C (.BinOp a .Mod b pos) (dOp oMod fa fb) := q_opK (r := fun _ => _) (fun _ => op_modN) v2_mod ha hb
theorem q_pow (ha : QX C a fa) (hb : QX C b fb) : QX C (.BinOp a .Pow b pos) (dOp oPow fa fb) := q_opK (r := fun _ => _) (fun _ => op_pow) v2_pow ha hb
theorem q_neg (ha : QX C a fa) : QX C (.UnaryOp .USub a pos) (dUn oNeg fa) := by
  obtain ⟨ta, a1, a2⟩ := ha
  exact ⟨tUn (rU fun i => .int (-i)) ta, fun i => pe_un un_neg (a1 i), te_un (r := rU fun i => .int (-i)) v1_neg a2⟩
theorem units_of (i : C.ι) : (C.X i).A.units + 64 < cLine := (C.room i).units
theorem q_eq (ha : QX C a fa) (hb : QX C b fb) : QX C (.Compare a [.Eq] [b] pos) (dOp oEq fa fb) := q_cmpK (r := rEqA) (fun i => op_eqA (units_of i)) v2_eq ha hb (nomark _)
theorem q_ne (ha : QX C a fa) (hb : QX C b fb) : QX C (.Compare a [.NotEq] [b] pos) (dOp oNe fa fb) := q_cmpK (r := rNeA) (fun i => op_neA (units_of i)) v2_ne ha hb (nomark _)
theorem q_lt (ha : QX C a fa) (hb : QX C b fb) : QX C (.Compare a [.Lt] [b] pos) (dOp oLt fa fb) := q_cmpK (r := fun _ => _) (fun _ => op_lt) v2_lt ha hb (nomark _)
theorem q_le (ha : QX C a fa) (hb : QX C b fb) : QX C (.Compare a [.LtE] [b] pos) (dOp oLe fa fb) := q_cmpK (r := fun _ => _) (fun _ => op_le) v2_le ha hb (nomark _)
theorem q_gt (ha : QX C a fa) (hb : QX C b fb) : QX C (.Compare a [.Gt] [b] pos) (dOp oGt fa fb) := q_cmpK (r := fun _ => _) (fun _ => op_gt) v2_gt ha hb (nomark _)
theorem q_ge (ha : QX C a fa) (hb : QX C b fb) : QX C (.Compare a [.GtE] [b] pos) (dOp oGe fa fb) := q_cmpK (r := fun _ => _) (fun _ => op_ge) v2_ge ha hb (nomark _)
theorem q_isN {j p2} (ha : QX C a fa) : QX C (.Compare a [.Is] [.Constant .none j p2] pos) (dOp (oIsN false) fa (dC .non)) := q_cmpK (r := fun _ => _) (fun _ => op_isN) v2_isN ha q_non (nomark _)
theorem q_notN {j p2} (ha : QX C a fa) : QX C (.Compare a [.IsNot] [.Constant .none j p2] pos) (dOp (oIsN true) fa (dC .non)) := q_cmpK (r := fun _ => _) (fun _ => op_notN) v2_notN ha q_non (nomark _)
theorem qt_eq (ha : QX C a fa) (hb : QX C b fb) : QT C (.Compare a [.Eq] [b] pos) (dB (dOp oEq fa fb)) := qt_cmpK (r := rEqA) (fun i => op_eqA (units_of i)) v2_eq ha hb (nomark _)
theorem qt_ne (ha : QX C a fa) (hb : QX C b fb) : QT C (.Compare a [.NotEq] [b] pos) (dB (dOp oNe fa fb)) := qt_cmpK (r := rNeA) (fun i => op_neA (units_of i)) v2_ne ha hb (nomark _)
theorem qt_lt (ha : QX C a fa) (hb : QX C b fb) : QT C (.Compare a [.Lt] [b] pos) (dB (dOp oLt fa fb)) := qt_cmpK (r := fun _ => _) (fun _ => op_lt) v2_lt ha hb (nomark _)
theorem qt_le (ha : QX C a fa) (hb : QX C b fb) : QT C (.Compare a [.LtE] [b] pos) (dB (dOp oLe fa fb)) := qt_cmpK (r := fun _ => _) (fun _ => op_le) v2_le ha hb (nomark _)
theorem qt_gt (ha : QX C a fa) (hb : QX C b fb) : QT C (.Compare a [.Gt] [b] pos) (dB (dOp oGt fa fb)) := qt_cmpK (r := fun _ => _) (fun _ => op_gt) v2_gt ha hb (nomark _)
theorem qt_ge (ha : QX C a fa) (hb : QX C b fb) : QT C (.Compare a [.GtE] [b] pos) (dB (dOp oGe fa fb)) := qt_cmpK (r := fun _ => _) (fun _ => op_ge) v2_ge ha hb (nomark _)
theorem qt_isN {j p2} (ha : QX C a fa) : QT C (.Compare a [.Is] [.Constant .none j p2] pos) (dB (dOp (oIsN false) fa (dC .non))) := qt_cmpK (r := fun _ => _) (fun _ => op_isN) v2_isN ha q_non (nomark _)
theorem qt_notN {j p2} (ha : QX C a fa) : QT C (.Compare a [.IsNot] [.Constant .none j p2] pos) (dB (dOp (oIsN true) fa (dC .non))) := qt_cmpK (r := fun _ => _) (fun _ => op_notN) v2_notN ha q_non (nomark _)
theorem q_ix (ha : QX C a fa) (hb : QX C b fb) (hs : PlainIx b := by intro _ _; rfl) : QX C (.Subscript a b pos) (dOp oIx fa fb) := by
  obtain ⟨ta, a1, a2⟩ := ha
  obtain ⟨tb, b1, b2⟩ := hb
  exact ⟨tOp (rIx C.G.K) ta tb, fun i => by have h := pe_ix (pos := pos) (ix_seq (X := C.X i)) (a1 i) (b1 i) hs; rw [C.hK i] at h; exact h, te_op v2_ix a2 b2⟩
theorem q_oix (j : Nat) {x : Str} {p : Pos} (hb : QX C b fb) (hs : PlainIx b := by intro _ _; rfl) (hN : ∀ i, (C.X i).N[j]? = some x := by intro _; rfl) (hv : ∀ i, Vis (C.X i).env.scope x := by intro _; first | exact Or.inl rfl | exact Or.inr (Or.inl rfl) | exact Or.inr (Or.inr rfl)) (hd : (x == ("__debug__" : Str)) = false := by decide)
    (hcd : (x == ("__classdict__" : Str)) = false := by decide) : QX C (.Subscript (.Name x p) b pos) (dOwnIx j fb) := by
  obtain ⟨tb, b1, b2⟩ := hb
  exact ⟨tOp (rIx C.G.K) (tVar j) tb, fun i => by have h := pe_ix (pos := pos) (ix_seq (X := C.X i)) (pe_var (pos := p) (hN i) (hv i) hd hcd) (b1 i) hs; rw [C.hK i] at h; exact h, te_ownIx b2⟩
end

/-! ### tests -/
section
variable {a b : Expr} {fa fb : Rho → R (D × Rho)} {ga gb : Rho → R (Bool × Rho)} {rest : List Expr} {pos : Pos}
theorem qt_val (ha : QX C a fa) (he : ∀ i whole, isTrue a (C.X i).env whole = (do let v ← whole; standAt a.pos; holding [v] (truthy v)) := by intro _ _; rfl) : QT C a (dB fa) := by
  obtain ⟨ta, a1, a2⟩ := ha
  exact ⟨tB ta, fun i => pt_val (a1 i) (he i), tt_b a2⟩
theorem qt_tru (ha : QX C a fa) (he : ∀ i whole, isTrue a (C.X i).env whole = (do let v ← whole; standAt a.pos; holding [v] (truthy v)) := by intro _ _; rfl) : QT C a (dTru truD fa) := by
  obtain ⟨ta, a1, a2⟩ := ha
  exact ⟨_, fun i => by have h := pt_truth (a1 i) (he i); rw [C.hK i] at h; exact h, tt_tru a2 tr_plain⟩
theorem qw_and1 (ha : QT C a ga) : QW C (.BoolOp .And [a] pos) ga := let ⟨t, h1, h2⟩ := ha; ⟨t, fun i => pw_and1 (h1 i), h2⟩
theorem qw_or1 (ha : QT C a ga) : QW C (.BoolOp .Or [a] pos) ga := let ⟨t, h1, h2⟩ := ha; ⟨t, fun i => pw_or1 (h1 i), h2⟩
theorem qw_and (ha : QT C a ga) (hb : QW C (.BoolOp .And (b :: rest) pos) gb) : QW C (.BoolOp .And (a :: b :: rest) pos) (dAnd ga gb) := let ⟨_, h1, h2⟩ := ha; let ⟨_, k1, k2⟩ := hb; ⟨_, fun i => pw_and (h1 i) (k1 i), tt_and h2 k2⟩
theorem qw_or (ha : QT C a ga) (hb : QW C (.BoolOp .Or (b :: rest) pos) gb) : QW C (.BoolOp .Or (a :: b :: rest) pos) (dOr ga gb) := let ⟨_, h1, h2⟩ := ha; let ⟨_, k1, k2⟩ := hb; ⟨_, fun i => pw_or (h1 i) (k1 i), tt_or h2 k2⟩
theorem qt_w (h : QW C a ga) : QT C a ga := let ⟨t, h1, h2⟩ := h; ⟨t, fun i => (h1 i).pt, h2⟩
theorem qt_not (ha : QT C a ga) : QT C (.UnaryOp .Not a pos) (dNot ga) := let ⟨_, h1, h2⟩ := ha; ⟨_, fun i => pt_not (h1 i), tt_not h2⟩
theorem q_one {op} (h : QX C a fa) : QX C (.BoolOp op [a] pos) fa := let ⟨t, h1, h2⟩ := h; ⟨t, fun i => pe_one (h1 i), h2⟩
theorem q_and (ha : QX C a fa) (hb : QX C (.BoolOp .And (b :: rest) pos) fb) : QX C (.BoolOp .And (a :: b :: rest) pos) (dAndV fa fb) := let ⟨_, h1, h2⟩ := ha; let ⟨_, k1, k2⟩ := hb; ⟨_, fun i => pe_and (h1 i) (k1 i), te_andV h2 k2⟩
theorem q_or (ha : QX C a fa) (hb : QX C (.BoolOp .Or (b :: rest) pos) fb) : QX C (.BoolOp .Or (a :: b :: rest) pos) (dOrV fa fb) := let ⟨_, h1, h2⟩ := ha; let ⟨_, k1, k2⟩ := hb; ⟨_, fun i => pe_or (h1 i) (k1 i), te_orV h2 k2⟩
theorem q_not (ha : QX C a fa) : QX C (.UnaryOp .Not a pos) (dNotV fa) := let ⟨_, h1, h2⟩ := ha; ⟨_, fun i => pe_not (h1 i), te_notV h2⟩
theorem q_if {c : Expr} (hc : QT C c ga) (ha : QX C a fa) (hb : QX C b fb) : QX C (.IfExp c a b pos) (dIfE ga fa fb) := let ⟨_, c1, c2⟩ := hc; let ⟨_, h1, h2⟩ := ha; let ⟨_, k1, k2⟩ := hb; ⟨_, fun i => pe_ifExp (c1 i) (h1 i) (k1 i), te_if c2 h2 k2⟩
end

/-! ### argument lists, displays, slices -/
section
variable {e : Expr} {es : List Expr} {f : Rho → R (D × Rho)} {fs : Rho → R (List D × Rho)} {pos : Pos}
theorem qa_nil : QA C [] aNil := ⟨tNil, fun i => pa_nil, ta_nil, fun ρ ds ρ' h => by cases h; rfl⟩
theorem qa_cons (ha : QX C e f) (hr : QA C es fs) (hs : ∀ i, starEach (e :: es) (C.X i).env = (false, eval e (C.X i).env) :: starEach es (C.X i).env := by intro _; rfl) : QA C (e :: es) (aCons f fs) := by
  obtain ⟨t, h1, h2⟩ := ha
  obtain ⟨tr, k1, k2, k3⟩ := hr
  refine ⟨_, fun i => pa_cons (h1 i) (k1 i) (hs i), ta_cons h2 k2, fun ρ ds ρ' h => ?_⟩
  unfold aCons at h
  cases q : f ρ with
  | ok p =>
    rw [q] at h
    have h : ((fs p.2).bind fun q => R.ok (p.1 :: q.1, q.2)) = .ok (ds, ρ') := h
    cases q2 : fs p.2 with
    | ok p2 =>
      rw [q2] at h
      cases h
      rw [List.length_cons, List.length_cons, k3 _ p2.1 p2.2 q2]
    | exc c w r => rw [q2] at h; cases h
    | bad => rw [q2] at h; cases h
  | exc c w r => rw [q] at h; cases h
  | bad => rw [q] at h; cases h
theorem q_tup {x1} (h : QA C es fs) : QX C (.Tuple es x1 pos) (dTup fs) := let ⟨_, h1, h2, _⟩ := h; ⟨_, fun i => pe_tup (h1 i), te_tup h2⟩
theorem q_lst (h : QA C es fs) : QO C (.List es pos) (dLsO opLst fs) := let ⟨_, h1, h2, _⟩ := h; ⟨_, fun i => pe_lst (h1 i), to_lst h2⟩
def QP (C : Cxt) (e : Option Expr) (f : Rho → R (Option Int × Rho)) : Prop := ∃ t, (∀ i, PO (C.X i) e t) ∧ TPok C.G C.Pn C.W t f
theorem qp_none : QP C none pNone := ⟨_, fun i => po_none, tp_none⟩
theorem qp_some (h : QX C e f) : QP C (some e) (pSome f) := let ⟨_, h1, h2⟩ := h; ⟨_, fun i => po_some (h1 i), tp_some h2⟩
theorem q_sl {lo hi : Option Expr} {p2} {fl fh : Rho → R (Option Int × Rho)} (he : QX C e f) (hl : QP C lo fl) (hh : QP C hi fh) : QX C (.Subscript e (.Slice lo hi none p2) pos) (dSl f fl fh) := by
  obtain ⟨t, h1, h2⟩ := he
  obtain ⟨tl, l1, l2⟩ := hl
  obtain ⟨th, k1, k2⟩ := hh
  exact ⟨tSl (rSlAll C.G.K) t tl th, fun i => by have h := pe_slice (pos := pos) (p2 := p2) (sl_all (X := C.X i)) (h1 i) (l1 i) (k1 i); rw [C.hK i] at h; exact h, te_sl h2 l2 k2⟩
theorem q_osl (j : Nat) {x : Str} {p : Pos} {lo hi : Option Expr} {p2} {fl fh : Rho → R (Option Int × Rho)} (hl : QP C lo fl) (hh : QP C hi fh) (hN : ∀ i, (C.X i).N[j]? = some x := by intro _; rfl) (hv : ∀ i, Vis (C.X i).env.scope x := by intro _; first | exact Or.inl rfl | exact Or.inr (Or.inl rfl) | exact Or.inr (Or.inr rfl)) (hd : (x == ("__debug__" : Str)) = false := by decide)
    (hcd : (x == ("__classdict__" : Str)) = false := by decide) : QX C (.Subscript (.Name x p) (.Slice lo hi none p2) pos) (dOwnSl j fl fh) := by
  obtain ⟨tl, l1, l2⟩ := hl
  obtain ⟨th, k1, k2⟩ := hh
  exact ⟨tSl (rSlAll C.G.K) (tVar j) tl th, fun i => by have h := pe_slice (pos := pos) (p2 := p2) (sl_all (X := C.X i)) (pe_var (pos := p) (hN i) (hv i) hd hcd) (l1 i) (k1 i); rw [C.hK i] at h; exact h, te_ownSl l2 k2⟩

/-! ### builtins -/
theorem q_blt {x : Str} {id : String} {r : PySem.W.Frag → List V → Hp → VK → Prop} {op : List D → O} {p : Pos} (hc : ∀ i, CallR (C.X i) (.builtin id) (r (C.X i).K)) (hv : bootBuiltins x = some (.builtin id)) (hop : VLok C.G C.Pn C.W (r C.G.K) op) (hm : C.mg x = none) (ha : QA C (e :: es) fs)
    (hg : ∀ i, Gl (C.X i) x) (hn : x ≠ "__name__" := by decide) (hdb : (x == ("__debug__" : Str)) = false := by decide) (he : ∀ i, starEach (e :: es) (C.X i).env = (false, eval e (C.X i).env) :: starEach es (C.X i).env := by intro _; rfl)
    (hpl : ∀ i, (backTo pos (starEach es (C.X i).env)).any (·.1) = false := by intro _; rfl) : QX C (.Call (.Name x p) (e :: es) [] pos) (dLs op fs) := by
  obtain ⟨t, h1, h2, _⟩ := ha
  exact ⟨tCB (r C.G.K) t, fun i => by have h := pe_callB (p := p) (pos := pos) (hc i) (hg i) ((congrFun (C.hm i) x).trans hm) hv (h1 i) hn hdb (he i) (hpl i); rw [C.hK i] at h; exact h, te_ls hop h2⟩
theorem q_bty {x : Str} {T : String} {r : PySem.W.Frag → List V → Hp → VK → Prop} {op : List D → O} {p : Pos} (hc : ∀ i, CallR (C.X i) (.type T) (r (C.X i).K)) (hv : bootBuiltins x = some (.type T)) (hop : VLok C.G C.Pn C.W (r C.G.K) op) (hm : C.mg x = none) (ha : QA C (e :: es) fs)
    (hg : ∀ i, Gl (C.X i) x) (hn : x ≠ "__name__" := by decide) (hdb : (x == ("__debug__" : Str)) = false := by decide) (he : ∀ i, starEach (e :: es) (C.X i).env = (false, eval e (C.X i).env) :: starEach es (C.X i).env := by intro _; rfl)
    (hpl : ∀ i, (backTo pos (starEach es (C.X i).env)).any (·.1) = false := by intro _; rfl) : QX C (.Call (.Name x p) (e :: es) [] pos) (dLs op fs) := by
  obtain ⟨t, h1, h2, _⟩ := ha
  exact ⟨tCB (r C.G.K) t, fun i => by have h := pe_callTy (p := p) (pos := pos) (hc i) (hg i) ((congrFun (C.hm i) x).trans hm) hv (h1 i) hn hdb (he i) (hpl i); rw [C.hK i] at h; exact h, te_ls hop h2⟩
variable {p : Pos}
theorem q_len (hm : C.mg "len" = none) (ha : QX C e f) (hg : ∀ i, Gl (C.X i) "len" := by intro _; rfl) (he : ∀ i, starEach [e] (C.X i).env = (false, eval e (C.X i).env) :: starEach [] (C.X i).env := by intro _; rfl) : QX C (.Call (.Name "len" p) [e] [] pos) (dLs oLen (aCons f aNil)) :=
  q_blt (r := rLenA) (fun _ => call_lenA) PySem.boot_len vl_len hm (qa_cons ha qa_nil he) hg (he := he)
theorem q_olen (j : Nat) {x : Str} {p2 : Pos} (hm : C.mg "len" = none) (hg : ∀ i, Gl (C.X i) "len" := by intro _; rfl) (he : ∀ i, starEach [.Name x p2] (C.X i).env = (false, eval (.Name x p2) (C.X i).env) :: starEach [] (C.X i).env := by intro _; rfl)
    (hN : ∀ i, (C.X i).N[j]? = some x := by intro _; rfl) (hv : ∀ i, Vis (C.X i).env.scope x := by intro _; first | exact Or.inl rfl | exact Or.inr (Or.inl rfl) | exact Or.inr (Or.inr rfl)) (hd : (x == ("__debug__" : Str)) = false := by decide) (hcd : (x == ("__classdict__" : Str)) = false := by decide) : QX C (.Call (.Name "len" p) [.Name x p2] [] pos) (dOwnLen j) :=
  ⟨tCB (rLenA C.G.K) (tCons (tVar j) tNil), fun i => by have h := pe_callB (p := p) (pos := pos) (call_lenA (X := C.X i)) (hg i) ((congrFun (C.hm i) _).trans hm) PySem.boot_len (pa_cons (pe_var (pos := p2) (hN i) (hv i) hd hcd) pa_nil (he i)) (by decide) (by decide) (he i) rfl; rw [C.hK i] at h; exact h, te_ownLen⟩
theorem q_abs (hm : C.mg "abs" = none) (ha : QX C e f) (hg : ∀ i, Gl (C.X i) "abs" := by intro _; rfl) (he : ∀ i, starEach [e] (C.X i).env = (false, eval e (C.X i).env) :: starEach [] (C.X i).env := by intro _; rfl) : QX C (.Call (.Name "abs" p) [e] [] pos) (dLs oAbs (aCons f aNil)) :=
  q_blt (r := fun _ => _) (fun _ => call_abs) (by decide +kernel) vl_abs hm (qa_cons ha qa_nil he) hg (he := he)
theorem q_max2 {e2 : Expr} {f2 : Rho → R (D × Rho)} (hm : C.mg "max" = none) (ha : QX C e f) (hb : QX C e2 f2) (hg : ∀ i, Gl (C.X i) "max" := by intro _; rfl) (he : ∀ i, starEach [e, e2] (C.X i).env = (false, eval e (C.X i).env) :: starEach [e2] (C.X i).env := by intro _; rfl)
    (he2 : ∀ i, starEach [e2] (C.X i).env = (false, eval e2 (C.X i).env) :: starEach [] (C.X i).env := by intro _; rfl) (hpl : ∀ i, (backTo pos (starEach [e2] (C.X i).env)).any (·.1) = false := by intro _; rfl) : QX C (.Call (.Name "max" p) [e, e2] [] pos) (dLs oMax2 (aCons f (aCons f2 aNil))) :=
  q_blt (r := fun _ => _) (fun i => call_max2 (C.calm i)) (by decide +kernel) vl_max2 hm (qa_cons ha (qa_cons hb qa_nil he2) he) hg (he := he) (hpl := hpl)
theorem q_min2 {e2 : Expr} {f2 : Rho → R (D × Rho)} (hm : C.mg "min" = none) (ha : QX C e f) (hb : QX C e2 f2) (hg : ∀ i, Gl (C.X i) "min" := by intro _; rfl) (he : ∀ i, starEach [e, e2] (C.X i).env = (false, eval e (C.X i).env) :: starEach [e2] (C.X i).env := by intro _; rfl)
    (he2 : ∀ i, starEach [e2] (C.X i).env = (false, eval e2 (C.X i).env) :: starEach [] (C.X i).env := by intro _; rfl) (hpl : ∀ i, (backTo pos (starEach [e2] (C.X i).env)).any (·.1) = false := by intro _; rfl) : QX C (.Call (.Name "min" p) [e, e2] [] pos) (dLs oMin2 (aCons f (aCons f2 aNil))) :=
  q_blt (r := fun _ => _) (fun i => call_min2 (C.calm i)) (by decide +kernel) vl_min2 hm (qa_cons ha (qa_cons hb qa_nil he2) he) hg (he := he) (hpl := hpl)
theorem q_intc (hm : C.mg "int" = none) (ha : QX C e f) (hg : ∀ i, Gl (C.X i) "int" := by intro _; rfl) (he : ∀ i, starEach [e] (C.X i).env = (false, eval e (C.X i).env) :: starEach [] (C.X i).env := by intro _; rfl) : QX C (.Call (.Name "int" p) [e] [] pos) (dLs oInt (aCons f aNil)) :=
  q_bty (r := fun _ => _) (fun _ => call_int1) (by decide +kernel) vl_int hm (qa_cons ha qa_nil he) hg (he := he)
theorem q_strc (hm : C.mg "str" = none) (ha : QX C e f) (hg : ∀ i, Gl (C.X i) "str" := by intro _; rfl) (he : ∀ i, starEach [e] (C.X i).env = (false, eval e (C.X i).env) :: starEach [] (C.X i).env := by intro _; rfl) : QX C (.Call (.Name "str" p) [e] [] pos) (dLs oStrI (aCons f aNil)) :=
  q_bty (r := fun _ => _) (fun _ => call_str_int) (by decide +kernel) vl_strI hm (qa_cons ha qa_nil he) hg (he := he)
theorem q_tupc (hm : C.mg "tuple" = none) (ha : QX C e f) (hg : ∀ i, Gl (C.X i) "tuple" := by intro _; rfl) (he : ∀ i, starEach [e] (C.X i).env = (false, eval e (C.X i).env) :: starEach [] (C.X i).env := by intro _; rfl) : QX C (.Call (.Name "tuple" p) [e] [] pos) (dLs oTup (aCons f aNil)) :=
  q_bty (r := rTupA) (fun _ => call_tuple_of) (by decide +kernel) vl_tup hm (qa_cons ha qa_nil he) hg (he := he)
theorem q_listc (hm : C.mg "list" = none) (ha : QX C e f) (hg : ∀ i, Gl (C.X i) "list" := by intro _; rfl) (he : ∀ i, starEach [e] (C.X i).env = (false, eval e (C.X i).env) :: starEach [] (C.X i).env := by intro _; rfl) : QO C (.Call (.Name "list" p) [e] [] pos) (dLsO opList (aCons f aNil)) := by
  obtain ⟨t, h1, h2, _⟩ := qa_cons ha (qa_nil (C := C)) he
  exact ⟨tCB (rListA C.G.K) t, fun i => by have h := pe_callTy (p := p) (pos := pos) (call_list_of (X := C.X i)) (hg i) ((congrFun (C.hm i) _).trans hm) (by decide +kernel) (h1 i) (by decide) (by decide) (he i) rfl; rw [C.hK i] at h; exact h, to_list h2⟩
end

/-! ### fields -/
theorem q_fld {e : Expr} {f : Str} {fa : Rho → R (D × Rho)} {pos : Pos} (cs : List Nat) (hc : ∀ c ∈ cs, ClsOk C.G c ∧ f ∈ C.G.nm c) (ha : QX C e fa) (hb : ∀ i, attributeBase e f (C.X i).env (eval e (C.X i).env) = eval e (C.X i).env := by intro _; rfl) : QX C (.Attribute e f pos) (dFld cs f C.G.nm fa) := by
  obtain ⟨t, h1, h2⟩ := ha
  exact ⟨tFld C.G.K t f, fun i => by have h := pe_fld (pos := pos) (h1 i) (hb i); rw [C.hK i] at h; exact h, te_fld hc h2⟩

/-! ### calls of defs -/
/-- the def of that name -/
def CallOk (P : Program) (w : World) (K : PySem.W.Frag) (mg : Str → Option Value) (base : Heap) (x : Str) (k : Nat) (sp : Sp) : Prop :=
  ∃ f fd ps, mg x = some (.ref f) ∧ PySem.W.keepIn K (.ref f) = true ∧ Binds K fd ps [] ∧ FnOk P w K mg base (L2.CX P w) k f fd ps sp
theorem CallOk.mono {P : Program} {w : World} {K : PySem.W.Frag} {mg : Str → Option Value} {base : Heap} {x : Str} {j k : Nat} {sp : Sp} (c : CallOk P w K mg base x j sp) (h : j ≤ k) : CallOk P w K mg base x k sp :=
  let ⟨f, fd, ps, a, b, d, e⟩ := c; ⟨f, fd, ps, a, b, d, e.mono h⟩
section
variable {e : Expr} {es : List Expr} {fs : Rho → R (List D × Rho)} {x : Str} {p pos : Pos} {k r ar : Nat}
theorem q_callO {Fn : List D → O} (c : CallOk C.P C.w C.G.K C.mg C.base x k (spec0 C.G r ar Fn)) (hk : k ≤ C.lv) (ha : QA C (e :: es) fs) (hl : (e :: es).length = ar := by rfl) (hg : ∀ i, Gl (C.X i) x := by intro _; rfl) (hdb : (x == ("__debug__" : Str)) = false := by decide)
    (he : ∀ i, starEach (e :: es) (C.X i).env = (false, eval e (C.X i).env) :: starEach es (C.X i).env := by intro _; rfl) (hpl : ∀ i, (backTo pos (starEach es (C.X i).env)).any (·.1) = false := by intro _; rfl) : QO C (.Call (.Name x p) (e :: es) [] pos) (dCall0 r Fn fs) := by
  obtain ⟨t, h1, h2, h3⟩ := ha
  obtain ⟨f, fd, ps, gx, kp, bb, F⟩ := c
  refine ⟨tCallS (spec0 C.G r ar Fn) (WE C.W) t, fun i => ?_, to_call0 h2 fun ρ ds ρ' q => by rw [h3 ρ ds ρ' q]; exact hl⟩
  refine pe_callS (CX := L2.CX (C.X i).prog (C.X i).w) (k := k) (f := f) (fd := fd) (ps := ps) ?_ ((C.room i).mono hk) (hg i) ((congrFun (C.hm i) x).trans gx) (by rw [C.hK i]; exact kp) (by rw [C.hK i]; exact bb) (fun σ => passAt (C.tk i) σ) (h1 i) hdb (he i) (hpl i)
  rw [C.hP i, C.hw i, C.hK i, C.hm i, C.hb i]
  exact F
theorem q_call {Fn : List D → O} (c : CallOk C.P C.w C.G.K C.mg C.base x k (spec0 C.G r ar Fn)) (hk : k ≤ C.lv) (ha : QA C (e :: es) fs) (hl : (e :: es).length = ar := by rfl) (hg : ∀ i, Gl (C.X i) x := by intro _; rfl) (hdb : (x == ("__debug__" : Str)) = false := by decide)
    (he : ∀ i, starEach (e :: es) (C.X i).env = (false, eval e (C.X i).env) :: starEach es (C.X i).env := by intro _; rfl) (hpl : ∀ i, (backTo pos (starEach es (C.X i).env)).any (·.1) = false := by intro _; rfl) : QX C (.Call (.Name x p) (e :: es) [] pos) (dFr (dCall0 r Fn fs)) :=
  q_fr (q_callO c hk ha hl hg hdb he hpl)
theorem q_callO1 (j : Nat) {y : Str} {py : Pos} {kk : Nat} {Fn : D → List D → O1} (c : CallOk C.P C.w C.G.K C.mg C.base x k (spec1 C.G r kk ar Fn)) (hk : k ≤ C.lv) (ha : QA C es fs) (hl : es.length + 1 = ar := by rfl) (hg : ∀ i, Gl (C.X i) x := by intro _; rfl) (hdb : (x == ("__debug__" : Str)) = false := by decide)
    (he : ∀ i, starEach (.Name y py :: es) (C.X i).env = (false, eval (.Name y py) (C.X i).env) :: starEach es (C.X i).env := by intro _; rfl) (hpl : ∀ i, (backTo pos (starEach es (C.X i).env)).any (·.1) = false := by intro _; rfl)
    (hN : ∀ i, (C.X i).N[j]? = some y := by intro _; rfl) (hv : ∀ i, Vis (C.X i).env.scope y := by intro _; first | exact Or.inl rfl | exact Or.inr (Or.inl rfl) | exact Or.inr (Or.inr rfl)) (hd : (y == ("__debug__" : Str)) = false := by decide) (hcd : (y == ("__classdict__" : Str)) = false := by decide) :
    QO C (.Call (.Name x p) (.Name y py :: es) [] pos) (dCall1 r kk j Fn fs) := by
  obtain ⟨t, h1, h2, h3⟩ := ha
  obtain ⟨f, fd, ps, gx, kp, bb, F⟩ := c
  refine ⟨tCallS (spec1 C.G r kk ar Fn) (WE C.W) (tCons (tVar j) t), fun i => ?_, to_call1 h2 fun ρ ds ρ' q => by rw [h3 ρ ds ρ' q]; exact hl⟩
  refine pe_callS (CX := L2.CX (C.X i).prog (C.X i).w) (k := k) (f := f) (fd := fd) (ps := ps) ?_ ((C.room i).mono hk) (hg i) ((congrFun (C.hm i) x).trans gx) (by rw [C.hK i]; exact kp) (by rw [C.hK i]; exact bb) (fun σ => passAt (C.tk i) σ) (pa_cons (pe_var (hN i) (hv i) hd hcd) (h1 i) (he i)) hdb (he i) (hpl i)
  rw [C.hP i, C.hw i, C.hK i, C.hm i, C.hb i]
  exact F
theorem q_call1 (j : Nat) {y : Str} {py : Pos} {kk : Nat} {Fn : D → List D → O1} (c : CallOk C.P C.w C.G.K C.mg C.base x k (spec1 C.G r kk ar Fn)) (hk : k ≤ C.lv) (ha : QA C es fs) (hl : es.length + 1 = ar := by rfl) (hg : ∀ i, Gl (C.X i) x := by intro _; rfl) (hdb : (x == ("__debug__" : Str)) = false := by decide)
    (he : ∀ i, starEach (.Name y py :: es) (C.X i).env = (false, eval (.Name y py) (C.X i).env) :: starEach es (C.X i).env := by intro _; rfl) (hpl : ∀ i, (backTo pos (starEach es (C.X i).env)).any (·.1) = false := by intro _; rfl)
    (hN : ∀ i, (C.X i).N[j]? = some y := by intro _; rfl) (hv : ∀ i, Vis (C.X i).env.scope y := by intro _; first | exact Or.inl rfl | exact Or.inr (Or.inl rfl) | exact Or.inr (Or.inr rfl)) (hd : (y == ("__debug__" : Str)) = false := by decide) (hcd : (y == ("__classdict__" : Str)) = false := by decide) :
    QX C (.Call (.Name x p) (.Name y py :: es) [] pos) (dFr (dCall1 r kk j Fn fs)) := q_fr (q_callO1 j c hk ha hl hg hdb he hpl hN hv hd hcd)
end

/-! ### statements -/
section
variable {st : Stmt} {rest : List Stmt} {f g : Rho → S} {e : Expr} {fe : Rho → R (D × Rho)} {fo : Rho → R (Nat × D × Rho)} {pos : Pos}
theorem qs_nil : QSs C [] sNext := ⟨tNext, fun i => pss_nil, ts_next⟩
theorem qs_cons (h1 : QS C st f) (h2 : QSs C rest g) : QSs C (st :: rest) (sSeq f g) := let ⟨_, a1, a2⟩ := h1; let ⟨_, b1, b2⟩ := h2; ⟨_, fun i => pss_cons (a1 i) (b1 i), ts_seq a2 b2⟩
theorem qs_one (h1 : QS C st f) : QSs C [st] f := let ⟨_, a1, a2⟩ := h1; ⟨_, fun i => pss_one (a1 i), a2⟩
theorem qs_frz (j : Nat) (h : QSs C rest f) : QSs C rest (sFrz j f) := let ⟨_, a1, a2⟩ := h; ⟨_, a1, ts_frz a2⟩
theorem qs_never : QS C st sBad := ⟨tNever, fun i => ps_never, ts_never⟩
theorem qs_pass : QS C (.Pass pos) sNext := ⟨tNext, fun i => ps_pass, ts_next⟩
theorem qs_brk : QS C (.Break pos) sBrk := ⟨tBreak, fun i => ps_break, ts_break⟩
theorem qs_cnt : QS C (.Continue pos) sCnt := ⟨tCont, fun i => ps_continue, ts_cont⟩
theorem qs_expr (he : QX C e fe) (hs : ∀ i, swapsWith e none pos.line (C.X i).env = pure false := by intro _; rfl) : QS C (.Expr e pos) (sDrop fe) := let ⟨_, a1, a2⟩ := he; ⟨_, fun i => ps_expr (a1 i) (hs i), ts_drop a2⟩
theorem qs_ret (he : QX C e fe) : QS C (.Return (some e) pos) (sRet fe) := let ⟨_, a1, a2⟩ := he; ⟨_, fun i => ps_ret (a1 i), ts_ret a2⟩
theorem qs_retO (he : QO C e fo) : QS C (.Return (some e) pos) (sRetO fo) := let ⟨_, a1, a2⟩ := he; ⟨_, fun i => ps_ret (a1 i), ts_retO a2⟩
theorem qs_if {c : Expr} {a b : List Stmt} {gc : Rho → R (Bool × Rho)} (hc : QT C c gc) (ha : QSs C a f) (hb : QSs C b g) : QS C (.If c a b pos) (sIf gc f g) := let ⟨_, c1, c2⟩ := hc; let ⟨_, a1, a2⟩ := ha; let ⟨_, b1, b2⟩ := hb; ⟨_, fun i => ps_if (c1 i) (a1 i) (b1 i), ts_if c2 a2 b2⟩
theorem qs_set (j : Nat) {x : Str} {p : Pos} (he : QX C e fe) (hi : ∀ i, (C.X i).N[j]? = some x := by intro _; rfl) (hx : ∀ i, Loc (C.X i).env.scope x := by intro _; first | exact Or.inl rfl | exact Or.inr rfl) (hs : ∀ i, swapsWith e (some (.Name x p)) pos.line (C.X i).env = pure false := by intro _; rfl)
    (hf : ∀ i, (C.X i).fn x = true ∨ (C.X i).env.scope.names.lookup x = some .local := by intro _; first | exact .inl rfl | exact .inr rfl) : QS C (.Assign [.Name x p] e pos) (sAsg j fe) := let ⟨_, a1, a2⟩ := he; ⟨_, fun i => ps_set (C.nd i) (hi i) (hx i) (a1 i) (hs i) (hf i), ts_asg a2⟩
theorem qs_setO (j : Nat) {x : Str} {p : Pos} (he : QO C e fo) (hi : ∀ i, (C.X i).N[j]? = some x := by intro _; rfl) (hx : ∀ i, Loc (C.X i).env.scope x := by intro _; first | exact Or.inl rfl | exact Or.inr rfl) (hs : ∀ i, swapsWith e (some (.Name x p)) pos.line (C.X i).env = pure false := by intro _; rfl)
    (hf : ∀ i, (C.X i).fn x = true ∨ (C.X i).env.scope.names.lookup x = some .local := by intro _; first | exact .inl rfl | exact .inr rfl) : QS C (.Assign [.Name x p] e pos) (sAsgO j fo) := let ⟨_, a1, a2⟩ := he; ⟨_, fun i => ps_set (C.nd i) (hi i) (hx i) (a1 i) (hs i) (hf i), ts_asgO a2⟩
theorem qs_while (m : Rho → Nat) {c : Expr} {body : List Stmt} {gc : Rho → R (Bool × Rho)} (hc : QT C c gc) (hb : QSs C body f) : QS C (.While c body [] pos) (sWhile m gc f) := let ⟨_, c1, c2⟩ := hc; let ⟨_, b1, b2⟩ := hb; ⟨_, fun i => ps_while (C.po i) (c1 i) (b1 i), ts_while c2 b2⟩
/-- a, b = x, y -/
theorem qs_par (i j : Nat) {x y : Str} {a b : Expr} {fa fb : Rho → R (D × Rho)} {px py pt : Pos} {kt k2 pt2} (ha : QX C a fa) (hb : QX C b fb) (hi : ∀ z, (C.X z).N[i]? = some x := by intro _; rfl) (hj : ∀ z, (C.X z).N[j]? = some y := by intro _; rfl) (hij : i ≠ j := by decide)
    (hx : ∀ z, (C.X z).env.scope.names.lookup x = some .local := by intro _; rfl) (hy : ∀ z, (C.X z).env.scope.names.lookup y = some .local := by intro _; rfl) (hw : ∀ z, swappedStores [.Tuple [.Name x px, .Name y py] kt pt] (.Tuple [a, b] k2 pt2) (C.X z).env = pure (some [x, y]) := by intro _; rfl)
    (hs : ∀ z, swapsWithSole [.Tuple [.Name x px, .Name y py] kt pt] (.Tuple [a, b] k2 pt2) pos.line (C.X z).env = pure false := by intro _; rfl) (h1 : ∀ z, starEach [a, b] (C.X z).env = (false, eval a (C.X z).env) :: starEach [b] (C.X z).env := by intro _; rfl) (h2 : ∀ z, starEach [b] (C.X z).env = (false, eval b (C.X z).env) :: starEach [] (C.X z).env := by intro _; rfl) :
    QS C (.Assign [.Tuple [.Name x px, .Name y py] kt pt] (.Tuple [a, b] k2 pt2) pos) (sPar i j fa fb) := let ⟨_, a1, a2⟩ := ha; let ⟨_, b1, b2⟩ := hb; ⟨_, fun z => ps_par (C.calm z) (C.nd z) (hi z) (hj z) hij (hx z) (hy z) (pa_cons (a1 z) (pa_cons (b1 z) pa_nil (h2 z)) (h1 z)) (hw z) (hs z), ts_par a2 b2⟩
/-- x[i] = e, x owned -/
theorem qs_oset (j : Nat) {x : Str} {p ps : Pos} {i : Expr} {fi : Rho → R (D × Rho)} (he : QX C e fe) (hi : QX C i fi) (hN : ∀ i, (C.X i).N[j]? = some x := by intro _; rfl) (hv : ∀ i, Vis (C.X i).env.scope x := by intro _; first | exact Or.inl rfl | exact Or.inr (Or.inl rfl) | exact Or.inr (Or.inr rfl)) (hd : (x == ("__debug__" : Str)) = false := by decide)
    (hcd : (x == ("__classdict__" : Str)) = false := by decide)
    (ha : ∀ z v, assign (.Subscript (.Name x p) i ps) (C.X z).env v = (do
      let ov ← holding [v] (eval (.Name x p) (C.X z).env)
      let iv ← holding [v, ov] (eval i (C.X z).env)
      standAt ps
      holding [v, ov, iv] (setItem ov iv v)
      release [v, ov, iv] []) := by intro _ _; rfl) (hs : ∀ z, swapsWithSole [.Subscript (.Name x p) i ps] e pos.line (C.X z).env = pure false := by intro _; rfl) (hw : ∀ z, swappedStores [.Subscript (.Name x p) i ps] e (C.X z).env = pure none := by intro _; rfl)
    (h1 : ∀ z, (assignEach [.Subscript (.Name x p) i ps] (C.X z).env).map (·.2) = [assign (.Subscript (.Name x p) i ps) (C.X z).env] := by intro _; rfl) : QS C (.Assign [.Subscript (.Name x p) i ps] e pos) (sOwnSet j fe fi) := by
  obtain ⟨te, e1, e2⟩ := he
  obtain ⟨ti, i1, i2⟩ := hi
  exact ⟨_, fun z => ps_asg (e1 z) (pg_sub (pe_var (hN z) (hv z) hd hcd) (i1 z) set_list (ha z)) (hs z) (hw z) (h1 z), ts_ownSet e2 i2⟩
/-- x.append(e), x.extend(e), x.pop(), x owned -/
theorem q_append (j : Nat) {x : Str} {p apos cpos : Pos} (he : QX C e fe) (hN : ∀ i, (C.X i).N[j]? = some x := by intro _; rfl) (hv : ∀ i, Vis (C.X i).env.scope x := by intro _; first | exact Or.inl rfl | exact Or.inr (Or.inl rfl) | exact Or.inr (Or.inr rfl)) (hd : (x == ("__debug__" : Str)) = false := by decide)
    (hcd : (x == ("__classdict__" : Str)) = false := by decide) (hbase : ∀ i, attributeBase (.Name x p) "append" (C.X i).env (eval (.Name x p) (C.X i).env) = eval (.Name x p) (C.X i).env := by intro _; rfl)
    (hfew : ∀ i, ((backTo cpos (starEach [e] (C.X i).env)).all (fun x => !x.1) && (backToKw cpos (keywordEach [] (C.X i).env)).all (fun x => x.1.isSome) && decide ([e].length + ([] : List Keyword).length + (if ([] : List Keyword).isEmpty then 0 else 1) < 30)) = true := by intro _; rfl)
    (hline : (apos.endLine == cpos.line) = true := by rfl) (hs : ∀ i, starEach [e] (C.X i).env = (false, eval e (C.X i).env) :: starEach [] (C.X i).env := by intro _; rfl) : QX C (.Call (.Attribute (.Name x p) "append" apos) [e] [] cpos) (dAppend j fe) := by
  obtain ⟨te, e1, e2⟩ := he
  refine ⟨tBM C.G.K "list" rAppend (tVar j) (tCons te tNil), fun i => ?_, te_append e2⟩
  have h := pe_bm PySem.F.plainAttrs_list PySem.F.slot_list_append PySem.F.type_list_append mt_append (pe_var (pos := p) (hN i) (hv i) hd hcd) (pa_cons (e1 i) pa_nil (hs i)) (hbase i) (hfew i) hline (hs i) rfl
  rw [C.hK i] at h
  exact h
theorem q_extend (j : Nat) {x : Str} {p apos cpos : Pos} (he : QX C e fe) (hN : ∀ i, (C.X i).N[j]? = some x := by intro _; rfl) (hv : ∀ i, Vis (C.X i).env.scope x := by intro _; first | exact Or.inl rfl | exact Or.inr (Or.inl rfl) | exact Or.inr (Or.inr rfl)) (hd : (x == ("__debug__" : Str)) = false := by decide)
    (hcd : (x == ("__classdict__" : Str)) = false := by decide) (hbase : ∀ i, attributeBase (.Name x p) "extend" (C.X i).env (eval (.Name x p) (C.X i).env) = eval (.Name x p) (C.X i).env := by intro _; rfl)
    (hfew : ∀ i, ((backTo cpos (starEach [e] (C.X i).env)).all (fun x => !x.1) && (backToKw cpos (keywordEach [] (C.X i).env)).all (fun x => x.1.isSome) && decide ([e].length + ([] : List Keyword).length + (if ([] : List Keyword).isEmpty then 0 else 1) < 30)) = true := by intro _; rfl)
    (hline : (apos.endLine == cpos.line) = true := by rfl) (hs : ∀ i, starEach [e] (C.X i).env = (false, eval e (C.X i).env) :: starEach [] (C.X i).env := by intro _; rfl) : QX C (.Call (.Attribute (.Name x p) "extend" apos) [e] [] cpos) (dExtend j fe) := by
  obtain ⟨te, e1, e2⟩ := he
  refine ⟨tBM C.G.K "list" rExtend (tVar j) (tCons te tNil), fun i => ?_, te_extend e2⟩
  have h := pe_bm PySem.F.plainAttrs_list PySem.F.slot_list_extend PySem.F.type_list_extend mt_extend (pe_var (pos := p) (hN i) (hv i) hd hcd) (pa_cons (e1 i) pa_nil (hs i)) (hbase i) (hfew i) hline (hs i) rfl
  rw [C.hK i] at h
  exact h
theorem q_pop (j : Nat) {x : Str} {p apos cpos : Pos} (hN : ∀ i, (C.X i).N[j]? = some x := by intro _; rfl) (hv : ∀ i, Vis (C.X i).env.scope x := by intro _; first | exact Or.inl rfl | exact Or.inr (Or.inl rfl) | exact Or.inr (Or.inr rfl)) (hd : (x == ("__debug__" : Str)) = false := by decide)
    (hcd : (x == ("__classdict__" : Str)) = false := by decide) (hbase : ∀ i, attributeBase (.Name x p) "pop" (C.X i).env (eval (.Name x p) (C.X i).env) = eval (.Name x p) (C.X i).env := by intro _; rfl) (hline : (apos.endLine == cpos.line) = true := by rfl) : QX C (.Call (.Attribute (.Name x p) "pop" apos) [] [] cpos) (dPop j) := by
  refine ⟨tBM0 C.G.K "list" rPop (tVar j), fun i => ?_, te_pop⟩
  have h := pe_bm0 PySem.F.plainAttrs_list PySem.F.slot_list_pop PySem.F.type_list_pop mt_pop (pe_var (pos := p) (hN i) (hv i) hd hcd) (hbase i) hline
  rw [C.hK i] at h
  exact h
end

/-! ### targets, what is walked, for, comprehensions -/
def QG (C : Cxt) (tg : Expr) (js : List Nat) (fg : D → Rho → Option Rho) : Prop := ∃ g, (∀ i, PG (C.X i) tg g) ∧ TGok C.G C.Pn g js fg
def QGs (C : Cxt) (tgs : List Expr) (js : List Nat) (fg : List D → Rho → Option Rho) : Prop := ∃ g, (∀ i, PGs (C.X i) tgs g) ∧ TGsok C.G C.Pn g js fg
def QI (C : Cxt) (tg it : Expr) (fi : Rho → R (List D × Rho)) : Prop := ∃ w, (∀ i, PI (C.X i) tg it w) ∧ TIok C.G C.Pn C.W w fi
def QTs (C : Cxt) (ifs : List Expr) (ft : Rho → R (Bool × Rho)) : Prop := ∃ t, (∀ i, PTs (C.X i) ifs t) ∧ TTok C.G C.Pn C.W t ft
theorem qg_name (j : Nat) {x : Str} {pos : Pos} (hi : ∀ i, (C.X i).N[j]? = some x := by intro _; rfl) (hx : ∀ i, Loc (C.X i).env.scope x := by intro _; first | exact Or.inl rfl | exact Or.inr rfl) (hf : ∀ i, (C.X i).fn x = true ∨ (C.X i).env.scope.names.lookup x = some .local := by intro _; first | exact .inl rfl | exact .inr rfl) : QG C (.Name x pos) [j] (putFro j) :=
  ⟨gName j, fun i => pg_name (C.nd i) (hi i) (hx i) (hf i), tg_name⟩
theorem qgs_nil : QGs C [] [] gsNil := ⟨gNil, fun i => pgs_nil, tgs_nil⟩
theorem qgs_cons {t : Expr} {ts : List Expr} {js ks : List Nat} {fg : D → Rho → Option Rho} {fr : List D → Rho → Option Rho} (h : QG C t js fg) (hr : QGs C ts ks fr) (hs : ∀ i, (assignEach (t :: ts) (C.X i).env).map (·.2) = assign t (C.X i).env :: (assignEach ts (C.X i).env).map (·.2) := by intro _; rfl) : QGs C (t :: ts) (js ++ ks) (gsCons fg fr) :=
  let ⟨_, a1, a2⟩ := h; let ⟨_, b1, b2⟩ := hr; ⟨_, fun i => pgs_cons (a1 i) (b1 i) (hs i), tgs_cons a2 b2⟩
theorem qg_tup {es : List Expr} {k : Nat} {pos : Pos} {js : List Nat} {fs : List D → Rho → Option Rho} (n : Nat) (h : QGs C es js fs) (hn : ∀ i, (assignEach es (C.X i).env).length = n := by intro _; rfl) (hst : ∀ i, (assignEach es (C.X i).env).findIdx? (·.1) = none := by intro _; rfl) : QG C (.Tuple es k pos) js (gTupD n fs) := by
  obtain ⟨gs, a1, a2⟩ := h
  exact ⟨gTup C.G.K n gs, fun i => by have h := pg_tup (k := k) (pos := pos) (C.calm i) (a1 i) (hn i) (hst i); rw [C.hK i] at h; exact h, tg_tup a2⟩
section
variable {tg e : Expr} {f : Rho → R (D × Rho)}
theorem qi_list (h : QX C e f) : QI C tg e (iLst f) := by
  obtain ⟨t, a1, a2⟩ := h
  exact ⟨iList C.G.K t, fun i => by have h := pi_list (tg := tg) (a1 i); rw [C.hK i] at h; exact h, ti_list a2⟩
theorem qi_tup (h : QX C e f) : QI C tg e (iTupD f) := by
  obtain ⟨t, a1, a2⟩ := h
  exact ⟨iTup C.G.K t, fun i => by have h := pi_tup (tg := tg) (a1 i); rw [C.hK i] at h; exact h, ti_tup a2⟩
theorem qi_rg1 {p pos : Pos} (hm : C.mg "range" = none) (h : QX C e f) (hg : ∀ i, Gl (C.X i) "range" := by intro _; rfl) (hs : ∀ i, starEach [e] (C.X i).env = [(false, eval e (C.X i).env)] := by intro _; rfl) : QI C tg (.Call (.Name "range" p) [e] [] pos) (iRg (aCons f aNil)) := by
  obtain ⟨t, a1, a2⟩ := h
  exact ⟨iRng1 (tCons t tNil), fun i => pi_range1 (hg i) ((congrFun (C.hm i) _).trans hm) (pa_cons (a1 i) pa_nil (hs i)) (hs i), ti_rg1 (ta_cons a2 ta_nil)⟩
theorem qi_rg2 {e2 : Expr} {f2 : Rho → R (D × Rho)} {p pos : Pos} (hm : C.mg "range" = none) (h : QX C e f) (h2 : QX C e2 f2) (hg : ∀ i, Gl (C.X i) "range" := by intro _; rfl) (hs : ∀ i, starEach [e, e2] (C.X i).env = [(false, eval e (C.X i).env), (false, eval e2 (C.X i).env)] := by intro _; rfl)
    (hs2 : ∀ i, starEach [e2] (C.X i).env = [(false, eval e2 (C.X i).env)] := by intro _; rfl) : QI C tg (.Call (.Name "range" p) [e, e2] [] pos) (iRg (aCons f (aCons f2 aNil))) := by
  obtain ⟨t, a1, a2⟩ := h
  obtain ⟨u, b1, b2⟩ := h2
  exact ⟨iRng2 (tCons t (tCons u tNil)), fun i => pi_range2 (hg i) ((congrFun (C.hm i) _).trans hm) (pa_cons (a1 i) (pa_cons (b1 i) pa_nil (hs2 i)) (by rw [hs i, hs2 i])) (hs i) (hs2 i), ti_rg2 (ta_cons a2 (ta_cons b2 ta_nil))⟩
end
theorem qs_for {tg it : Expr} {body : List Stmt} {js : List Nat} {fi : Rho → R (List D × Rho)} {fg : D → Rho → Option Rho} {fb : Rho → S} {pos : Pos} (hi : QI C tg it fi) (hg : QG C tg js fg) (hb : QSs C body fb) (hs : ∀ i x, foldedSetIterable it (C.X i).env x = pure x := by intro _ _; rfl) : QS C (.For tg it body [] pos) (sFor fi fg fb) :=
  let ⟨_, i1, i2⟩ := hi; let ⟨_, g1, g2⟩ := hg; let ⟨_, b1, b2⟩ := hb; ⟨_, fun i => ps_for (C.po i) (C.calm i) (i1 i) (g1 i) (b1 i) (hs i), ts_for i2 g2 b2⟩
theorem qts_nil : QTs C [] (fun ρ => .ok (true, ρ)) := ⟨tYes, fun i => pts_nil, fun F ρ σ H A Q s ok ex nb => ok true ρ rfl F H A (Step.refl F H A) s⟩
theorem qts_one {c : Expr} {ft : Rho → R (Bool × Rho)} (h : QT C c ft) : QTs C [c] ft := let ⟨_, a1, a2⟩ := h; ⟨_, fun i => pts_one (a1 i), a2⟩
/-- the contexts of a comprehension's block -/
def Cxt.blk (C : Cxt) (scope : Scope) : Cxt where
  ι := C.ι × Shared × Hp × Addr × List (Str × Addr) × List Addr
  X := fun j => (C.X j.1).blk j.2.1 j.2.2.1 scope (compEnvC scope j.2.2.2.2.1 j.2.2.2.1 (C.X j.1).env) j.2.2.2.2.2
  G := C.G
  Pn := C.Pn
  W := W0
  P := C.P
  w := C.w
  mg := C.mg
  base := C.base
  lv := C.lv
  hK := fun j => C.hK j.1
  hP := fun j => C.hP j.1
  hw := fun j => C.hw j.1
  hm := fun j => C.hm j.1
  hb := fun j => C.hb j.1
  tk := fun _ => takes0
  calm := fun j => C.calm j.1
  nd := fun j => C.nd j.1
  room := fun j => C.room j.1
  po := fun _ => PassesOwn.never
section
variable {elt tg it : Expr} {ifs : List Expr} {scope : Scope} {pos : Pos} {js : List Nat} {fi : Rho → R (List D × Rho)} {fg : D → Rho → Option Rho} {ft : Rho → R (Bool × Rho)} {fe : Rho → R (D × Rho)}
theorem q_comp (own : List (Str × Nat)) (hi : QI C tg it fi) (hg : QG (C.blk scope) tg js fg) (ht : QTs (C.blk scope) ifs ft) (he : QX (C.blk scope) elt fe) (ok : ∀ i, BlkOk (C.X i).N (C.X i).env.scope scope own := by intro _; first | exact blkOk_by (by decide +kernel) | exact blkOk_by rfl) (hj : ∀ j ∈ js, j ∈ own.map (·.2) := by decide)
    (hs : ∀ i x, foldedSetIterable it (C.X i).env x = pure x := by intro _ _; rfl) : QO C (.ListComp elt [⟨tg, it, ifs, 0⟩] scope pos) (dComp (own.map (·.2)) fi fg ft fe) := by
  obtain ⟨w, i1, i2⟩ := hi
  obtain ⟨g, g1, g2⟩ := hg
  obtain ⟨tt, t1, t2⟩ := ht
  obtain ⟨te, e1, e2⟩ := he
  exact ⟨tLc w g tt te (own.map (·.2)), fun i => pe_lc (C.calm i) (C.nd i) (i1 i) (ok i) (fun s H c cl fp => g1 (i, s, H, c, cl, fp)) (fun s H c cl fp => t1 (i, s, H, c, cl, fp)) (fun s H c cl fp => e1 (i, s, H, c, cl, fp)) (hs i), to_comp i2 g2 hj t2 e2⟩
theorem qs_setcO (own : List (Str × Nat)) (j : Nat) {y : Str} {py spos : Pos} (hi : QI C tg it fi) (hg : QG (C.blk scope) tg js fg) (ht : QTs (C.blk scope) ifs ft) (he : QX (C.blk scope) elt fe) (ok : ∀ i, BlkOk (C.X i).N (C.X i).env.scope scope own := by intro _; first | exact blkOk_by (by decide +kernel) | exact blkOk_by rfl) (hj : ∀ j ∈ js, j ∈ own.map (·.2) := by decide)
    (hy : ∀ i, (C.X i).N[j]? = some y := by intro _; rfl) (hyl : ∀ i, (C.X i).env.scope.names.lookup y = some .local := by intro _; rfl) (hsw : ∀ i, swapsWith (.ListComp elt [⟨tg, it, ifs, 0⟩] scope pos) (some (.Name y py)) spos.line (C.X i).env = pure true := by intro _; exact sw_true rfl rfl rfl (by decide +kernel))
    (hs : ∀ i x, foldedSetIterable it (C.X i).env x = pure x := by intro _ _; rfl) : QS C (.Assign [.Name y py] (.ListComp elt [⟨tg, it, ifs, 0⟩] scope pos) spos) (sAsgO j (dComp (own.map (·.2)) fi fg ft fe)) := by
  obtain ⟨w, i1, i2⟩ := hi
  obtain ⟨g, g1, g2⟩ := hg
  obtain ⟨tt, t1, t2⟩ := ht
  obtain ⟨te, e1, e2⟩ := he
  exact ⟨tAsg (tLc w g tt te (own.map (·.2))) (gName j), fun i => ps_setLc (C.calm i) (C.nd i) (hy i) (hyl i) (hsw i) (i1 i) (ok i) (fun s H c cl fp => g1 (i, s, H, c, cl, fp)) (fun s H c cl fp => t1 (i, s, H, c, cl, fp)) (fun s H c cl fp => e1 (i, s, H, c, cl, fp)) (hs i), ts_asgO (to_comp i2 g2 hj t2 e2)⟩
theorem qs_setc (own : List (Str × Nat)) (j : Nat) {y : Str} {py spos : Pos} (hi : QI C tg it fi) (hg : QG (C.blk scope) tg js fg) (ht : QTs (C.blk scope) ifs ft) (he : QX (C.blk scope) elt fe) (ok : ∀ i, BlkOk (C.X i).N (C.X i).env.scope scope own := by intro _; first | exact blkOk_by (by decide +kernel) | exact blkOk_by rfl) (hj : ∀ j ∈ js, j ∈ own.map (·.2) := by decide)
    (hy : ∀ i, (C.X i).N[j]? = some y := by intro _; rfl) (hyl : ∀ i, (C.X i).env.scope.names.lookup y = some .local := by intro _; rfl) (hsw : ∀ i, swapsWith (.ListComp elt [⟨tg, it, ifs, 0⟩] scope pos) (some (.Name y py)) spos.line (C.X i).env = pure true := by intro _; exact sw_true rfl rfl rfl (by decide +kernel))
    (hs : ∀ i x, foldedSetIterable it (C.X i).env x = pure x := by intro _ _; rfl) : QS C (.Assign [.Name y py] (.ListComp elt [⟨tg, it, ifs, 0⟩] scope pos) spos) (sAsg j (dFr (dComp (own.map (·.2)) fi fg ft fe))) := by
  obtain ⟨w, i1, i2⟩ := hi
  obtain ⟨g, g1, g2⟩ := hg
  obtain ⟨tt, t1, t2⟩ := ht
  obtain ⟨te, e1, e2⟩ := he
  exact ⟨tAsg (tLc w g tt te (own.map (·.2))) (gName j), fun i => ps_setLc (C.calm i) (C.nd i) (hy i) (hyl i) (hsw i) (i1 i) (ok i) (fun s H c cl fp => g1 (i, s, H, c, cl, fp)) (fun s H c cl fp => t1 (i, s, H, c, cl, fp)) (fun s H c cl fp => e1 (i, s, H, c, cl, fp)) (hs i), ts_asg (te_fr (to_comp i2 g2 hj t2 e2))⟩
end
end

/-! ### defs -/
section
variable {P : Program} {w : World} {G : Gam} {mg : Str → Option Value} {base : Heap}
/-- the contexts of a def's body -/
def cxt0 (P : Program) (w : World) (G : Gam) (mg : Str → Option Value) (base : Heap) (Pn : Nat → V) (k : Nat) (N : List Str) (qual : Str) (sc : Scope) (f : Addr) (cdv : Value) (hN : N.Nodup) (A : Around) (outer : List Env) (s : Shared) (H : Hp) (E : XK)
    (hr : Room k (A.deeper (envOfC qual sc s.heap.objs.size f cdv))) : Cxt where
  ι := Unit
  X := fun _ => cxOf (L2.CX P w) P w G.K mg base N qual sc f cdv A outer s H E
  G := G
  Pn := Pn
  W := fun cls d _ H => E cls d H
  P := P
  w := w
  mg := mg
  base := base
  lv := k
  hK := fun _ => rfl
  hP := fun _ => rfl
  hw := fun _ => rfl
  hm := fun _ => rfl
  hb := fun _ => rfl
  tk := fun _ => takes_of rfl rfl rfl rfl
  calm := fun _ => rfl
  nd := fun _ => hN
  room := fun _ => hr
  po := fun _ => passes_of rfl
theorem def0 {x qual : Str} {st : Stmt} {f : Addr} {fd : FuncData} {N ps : List Str} {k r n ar : Nat} {fb : Rho → S} (F : Fun G.K x qual st f fd) (S : FnScope N ps (defScope st)) (hn : N.length = n) (hp : ps.length = ar) (hpn : ar ≤ n)
    (body : ∀ (cdv : Value) (A : Around) (outer : List Env) (s : Shared) (H : Hp) (E : XK) (hr : Room k (A.deeper (envOfC qual (defScope st) s.heap.objs.size f cdv))), QSs (cxt0 P w G mg base (fun _ => .non) k N qual (defScope st) f cdv S.nd A outer s H E hr) (defBody st) fb) :
    FnOk P w G.K mg base (L2.CX P w) (k + 1) f fd ps (spec0 G r ar (fn0 n r fb)) := by
  refine F.okX S (fun vs H Q E h => ?_) (fun cdv A outer s H vs Q E hr h => ?_)
  · obtain ⟨ds, F', _, _, hl, _⟩ := h
    rw [hl, hp]
  · obtain ⟨t, t1, t2⟩ := body cdv A outer s H E hr
    exact ⟨t, t1 (), body0 t2 hn hpn h⟩
theorem def1 {x qual : Str} {st : Stmt} {f : Addr} {fd : FuncData} {N ps : List Str} {k r kk n ar : Nat} {fb : Rho → S} (F : Fun G.K x qual st f fd) (S : FnScope N ps (defScope st)) (hn : N.length = n) (hp : ps.length = ar) (hpn : ar ≤ n)
    (body : ∀ (Pn : Nat → V) (cdv : Value) (A : Around) (outer : List Env) (s : Shared) (H : Hp) (E : XK) (hr : Room k (A.deeper (envOfC qual (defScope st) s.heap.objs.size f cdv))), QSs (cxt0 P w G mg base Pn k N qual (defScope st) f cdv S.nd A outer s H E hr) (defBody st) fb) :
    FnOk P w G.K mg base (L2.CX P w) (k + 1) f fd ps (spec1 G r kk ar (fn1 n r kk fb)) := by
  refine F.okX S (fun vs H Q E h => ?_) (fun cdv A outer s H vs Q E hr h => ?_)
  · obtain ⟨v0, vr, d0, dr, F', l0, _, _, _, _, _, hl, _⟩ := h
    rw [hl, hp]
  · have e0 : ∀ v0, ∃ t, PSs (cxOf (L2.CX P w) P w G.K mg base N qual (defScope st) f cdv A outer s H E) (defBody st) t ∧ TSok G (fun _ => v0) (fun cls d _ H => E cls d H) t fb := fun v0 => by
      obtain ⟨t, t1, t2⟩ := body (fun _ => v0) cdv A outer s H E hr
      exact ⟨t, t1 (), t2⟩
    have h' := h
    obtain ⟨v0, vr, d0, dr, F', l0, hvs, _⟩ := h'
    obtain ⟨t, t1, t2⟩ := e0 v0
    refine ⟨t, t1, body1 (fun v1 hv1 => ?_) hn hpn h⟩
    rw [hvs] at hv1
    cases hv1
    exact t2
end
end DL
end
noncomputable section
set_option maxRecDepth 100000
set_option maxHeartbeats 400000
/-! ## DL9: classes, instances, methods, isinstance -/
namespace DL
open PySem PySem.Spec PyProof.Rows L2
section
variable {X : Cx} {CX : CXT} {k : Nat} {f C : Addr} {fd : FuncData} {ps : List Str} {sp : Sp} {dvs : List V} {ds : List Value} {E : L2.St → XK} {x m : Str} {p pos apos : Pos} {e o : Expr} {es : List Expr} {ta : TE} {t : TA}
def tMthS (C : Addr) (m : Str) (sp : Sp) (E : L2.St → XK) (ta : TE) (t : TA) : TE := fun σ H Q => ta σ H fun x H1 => ∃ a dx fs, x = .ref a ∧ H1 a = some (.ins C dx fs) ∧ fs.lookup m = none ∧ t σ H1 fun vs H2 => sp (x :: vs) H2 Q (E σ)
theorem pe_mthS {pl : Sem Bool} (he : PE X o ta) (c : Cls X.K C) (hm : Meth X.K C m f) (F : FnOk X.prog X.w X.K X.mg X.base CX k f fd ps sp) (hr : Room k X.A) (hb : Binds X.K fd ps []) (hx : ∀ σ, PassesAt CX X σ (E σ)) (ha : PA X (e :: es) t)
    (hst : starEach (e :: es) X.env = (false, eval e X.env) :: starEach es X.env := by rfl) (hpl : (backTo pos (starEach es X.env)).any (·.1) = false := by rfl)
    (ht : eval (.Call (.Attribute o m apos) (e :: es) [] pos) X.env = (do
      let ov ← eval o X.env
      standAt apos.atName
      let (f, first) ← holding [ov] (getMethod ov m pl)
      callWith pos f first (backTo pos (starEach (e :: es) X.env)) (backToKw pos (keywordEach [] X.env))) := by rfl) :
    PE X (.Call (.Attribute o m apos) (e :: es) [] pos) (tMthS C m sp E ta t) := by
  refine ⟨fun pins s σ H Q I h => ?_⟩
  refine PySem.W.methodCall_KW (pl := pl) (thn (he.run pins s σ H _ I h) fun u s1 ⟨x, H1, I1, rx, a, dx, fs, ex, ea, l, q⟩ => ?_) ht
  subst ex
  obtain rfl : u = Value.ref a := rx
  refine getmeth_ok I1 ea c hm l ?_
  refine PySem.W.callWith_K (first := [.ref a]) (h₀ := X.base) I.ok.mod.kin hm.kp (thn (ha.run pos pins s1 σ H1 _ I1 q) fun us s2 ⟨vs, H2, I2, r, q2⟩ => ⟨I2.kIn, ?_⟩) hst hpl
  exact run_fnS (us := .ref a :: us) (vs := .ref a :: vs) F hr hb (hx σ) I2 (.cons rfl r) q2
theorem pe_mthS0 {pl : Sem Bool} (he : PE X o ta) (c : Cls X.K C) (hm : Meth X.K C m f) (F : FnOk X.prog X.w X.K X.mg X.base CX k f fd ps sp) (hr : Room k X.A) (hb : Binds X.K fd ps []) (hx : ∀ σ, PassesAt CX X σ (E σ))
    (ht : eval (.Call (.Attribute o m apos) [] [] pos) X.env = (do
      let ov ← eval o X.env
      standAt apos.atName
      let (f, first) ← holding [ov] (getMethod ov m pl)
      callWith pos f first (backTo pos (starEach [] X.env)) (backToKw pos (keywordEach [] X.env))) := by rfl) :
    PE X (.Call (.Attribute o m apos) [] [] pos) (tMthS C m sp E ta tNil) := by
  refine ⟨fun pins s σ H Q I h => ?_⟩
  refine PySem.W.methodCall_KW (pl := pl) (thn (he.run pins s σ H _ I h) fun u s1 ⟨x, H1, I1, rx, a, dx, fs, ex, ea, l, q⟩ => ?_) ht
  subst ex
  obtain rfl : u = Value.ref a := rx
  refine getmeth_ok I1 ea c hm l ?_
  exact PySem.W.callWith_K0 (first := [.ref a]) I1.kIn hm.kp (run_fnS (us := [.ref a]) (vs := [.ref a]) F hr hb (hx σ) I1 (.cons rfl .nil) q)
theorem run_mkS {pins : List (Addr × Obj)} {σ : L2.St} {H : Hp} {s : Shared} {Q : VK} {us : List Value} {vs : List V} (M : Mk X.K C f) (F : FnOk X.prog X.w X.K X.mg X.base CX k f fd ps sp) (hr : Room (k + 1) X.A) (hb : Binds X.K fd ps ds) (hd : Vals dvs ds)
    (hx : PassesAt CX X σ (E σ)) (I : Inv X pins σ H s) (r : Vals vs us)
    (h : ∀ x dx, H x = none → H dx = none → dx ≠ x → sp (.ref x :: (vs ++ dvs)) (upd (upd H dx (.own x)) x (.ins C dx [])) (fun v H2 => v = .non ∧ Q (.ref x) H2) (E σ)) :
    wpAny (model X.prog X.w) X.A (call (.ref C) us) (EP X pins σ Q) X.xe s := by
  have hq := h (s.heap.objs.size + 1) s.heap.objs.size (I.hok.fresh (Nat.le_succ _)) (I.hok.fresh (Nat.le_refl _)) (Nat.ne_of_lt (Nat.lt_succ_self _))
  have I2 := Inv.made (C := C) I
  have r2 : Vals (V.ref (s.heap.objs.size + 1) :: (vs ++ dvs)) (Value.ref (s.heap.objs.size + 1) :: (us ++ ds)) := .cons rfl (r.append hd)
  have hl : (Value.ref (s.heap.objs.size + 1) :: us ++ ds).length = ps.length := by
    have e := r2.length
    rw [F.len _ _ _ _ hq] at e
    exact e.symm
  refine wpAny_call (make_map (f := f) I.kIn M.makes M.init (beq_iff_eq.mp M.fn) (codeAny_mono (F.run _ X.stack _ _ ⟨Value.ref (s.heap.objs.size + 1) :: us, []⟩ (Value.ref (s.heap.objs.size + 1) :: (us ++ ds)) _ _ (E σ) (hr.make C us [])
    (I2.env0.make C us []) (hb _ (Value.ref (s.heap.objs.size + 1) :: us) I2.kIn hl) r2 hq) fun r s' hq' => ?_))
  cases r with
  | error e => exact hx pins _ _ e s' I2 hq'
  | ok fl =>
    cases fl with
    | ret u =>
      obtain ⟨v, H', I3, rv, ev, q3⟩ := I2.after hq'
      subst ev
      exact ⟨rv, ⟨V.ref (s.heap.objs.size + 1), H', I3, rfl, q3⟩⟩
    | next => exact False.elim hq'
    | brk => exact False.elim hq'
    | cont => exact False.elim hq'
def tMkS (C : Addr) (sp : Sp) (dvs : List V) (E : L2.St → XK) (t : TA) : TE := fun σ H Q => t σ H fun vs H1 => ∀ x dx, H1 x = none → H1 dx = none → dx ≠ x →
  sp (.ref x :: (vs ++ dvs)) (upd (upd H1 dx (.own x)) x (.ins C dx [])) (fun v H2 => v = .non ∧ Q (.ref x) H2) (E σ)
theorem pe_mkS (M : Mk X.K C f) (F : FnOk X.prog X.w X.K X.mg X.base CX k f fd ps sp) (hr : Room (k + 1) X.A) (hg : Gl X x) (hm : X.mg x = some (.ref C)) (hb : Binds X.K fd ps ds) (hd : Vals dvs ds) (hx : ∀ σ, PassesAt CX X σ (E σ))
    (ha : PA X (e :: es) t) (hdb : (x == ("__debug__" : Str)) = false := by decide) (he : starEach (e :: es) X.env = (false, eval e X.env) :: starEach es X.env := by rfl) (hpl : (backTo pos (starEach es X.env)).any (·.1) = false := by rfl) :
    PE X (.Call (.Name x p) (e :: es) [] pos) (tMkS C sp dvs E t) := by
  refine ⟨fun pins s σ H Q I h => ?_⟩
  refine wpAny_Call_Name_kw (ld_glob I hg hm ?_ hdb)
  refine PySem.W.callWith_K (h₀ := X.base) I.ok.mod.kin M.kp (thn (ha.run pos pins s σ H _ I h) fun us s1 ⟨vs, H1, I1, r, q⟩ => ⟨I1.kIn, ?_⟩) he hpl
  exact run_mkS M F hr hb hd (hx σ) I1 r q
theorem pe_mkS0 (M : Mk X.K C f) (F : FnOk X.prog X.w X.K X.mg X.base CX k f fd ps sp) (hr : Room (k + 1) X.A) (hg : Gl X x) (hm : X.mg x = some (.ref C)) (hb : Binds X.K fd ps ds) (hd : Vals dvs ds) (hx : ∀ σ, PassesAt CX X σ (E σ))
    (hdb : (x == ("__debug__" : Str)) = false := by decide) : PE X (.Call (.Name x p) [] [] pos) (tMkS C sp dvs E tNil) := by
  refine ⟨fun pins s σ H Q I h => ?_⟩
  refine wpAny_Call_Name_kw (ld_glob I hg hm ?_ hdb)
  exact PySem.W.callWith_K0 I.kIn M.kp (run_mkS (us := []) M F hr hb hd (hx σ) I .nil h)
end
end DL
namespace DL
open PySem PySem.Spec PyProof.Rows L2

section
variable {G : Gam} {Pn : Nat → V} {W : WX}
theorem zip_none {f : Str} : ∀ {ns : List Str} {vs : List V}, f ∉ ns → (ns.zip vs).lookup f = none
  | [], _, _ => rfl
  | n :: ns, [], _ => rfl
  | n :: ns, w :: vs, h => by
    rw [List.mem_cons, not_or] at h
    rw [List.zip_cons_cons, List.lookup_cons]
    have : (f == n) = false := by simpa using h.1
    rw [this]
    exact zip_none h.2
/-- is of the class c -/
def isC (c : Nat) : D → Bool
  | .ins c' _ => c' == c
  | _ => false
theorem isC_of {c : Nat} {d : D} (h : isC c d = true) : ∃ fs, d = .ins c fs := by
  cases d with
  | ins c' fs => exact ⟨fs, by rw [eq_of_beq (show (c' == c) = true from h)]⟩
  | _ => cases h
def dMeth0 (c r : Nat) (Fn : List D → O) (fo : Rho → R (D × Rho)) (fa : Rho → R (List D × Rho)) : Rho → R (Nat × D × Rho) := fun ρ =>
  (fo ρ).bind fun p => if isC c p.1 = true then (fa p.2).bind fun q => (Fn (p.1 :: q.1)).toRO r q.2 else .bad
/-- o.m(..), o frozen -/
theorem to_meth0 {c r ar : Nat} {m : Str} {Fn : List D → O} {to : TE} {ta : TA} {fo : Rho → R (D × Rho)} {fa : Rho → R (List D × Rho)} (hm : m ∉ G.nm c) (ho : TEok G Pn W to fo) (ha : TAok G Pn W ta fa) (hl : ∀ ρ ds ρ', fa ρ = .ok (ds, ρ') → ds.length + 1 = ar) :
    TOok G Pn W (tMthS (G.cl c) m (spec0 G r ar Fn) (WE W) to ta) (dMeth0 c r Fn fo fa) := by
  intro F ρ σ H A Q s ok ex nb
  refine ho F ρ σ H A _ s (fun x ρ1 e1 v F1 H1 A1 s1 S1 r1 => ?_) (fun cc w ρ1 e1 => ex cc w ρ1 (R.bind_exc e1)) (R.bind_bad nb)
  have E1 : dMeth0 c r Fn fo fa ρ = if isC c x = true then (fa ρ1).bind fun q => (Fn (x :: q.1)).toRO r q.2 else .bad := R.bind_ok e1
  rw [E1] at ok ex nb
  by_cases hx : isC c x = true
  · rw [if_pos hx] at ok ex nb
    obtain ⟨fs, rfl⟩ := isC_of hx
    have r0 := r1
    obtain ⟨a, dx, us, rfl, hF, hlen, rl⟩ := rep_ins r1
    refine ⟨a, dx, _, rfl, S1.sub _ _ hF, zip_none hm, ?_⟩
    refine ha F1 ρ1 σ H1 A1 _ S1 (fun xs ρ2 e2 vs F2 H2 A2 s2 S2 r2 => ?_) (fun cc w ρ2 e2 => (ex cc w ρ2 (R.bind_exc e2)).step s1) (R.bind_bad nb)
    have E2 : ((fa ρ1).bind fun q => (Fn (D.ins c fs :: q.1)).toRO r q.2) = (Fn (D.ins c fs :: xs)).toRO r ρ2 := R.bind_ok e2
    rw [E2] at ok ex nb
    have s12 := s1.trans s2
    refine ⟨D.ins c fs :: xs, F2, S2.sub, RepL.cons (Rep.mono s2.le _ r0) r2, by rw [List.length_cons, ← r2.length]; exact hl ρ1 xs ρ2 e2, fun z => nb (by rw [z]; rfl), fun d ed v F' H' l kp ow fr => ?_, fun cc w ed dx' v F' H' kp hx rx => ?_⟩
    · obtain ⟨S3, s3⟩ := S2.kept kp
      refine ok r d ρ2 (by rw [ed]; rfl) v F' H' A2 l (s12.trans s3) S3 ⟨ow, fr.nf, fun a ha i hi => ?_, fr.nd⟩ fun a ha => ?_
      · rcases fr.fr a ha with z | z
        · cases z
        · exact S2.apart z i hi
      · rcases fr.fr a ha with z | z
        · cases z
        · exact s12.back (.inr z)
    · obtain ⟨S3, s3⟩ := S2.kept kp
      exact ex cc w ρ2 (by rw [ed]; rfl) σ dx' v F' H' A2 (s12.trans s3) S3 hx rx
  · rw [if_neg hx] at nb; exact absurd rfl nb

/-- C(..): a new instance, owned -/
def dMake (c : Nat) (Fn : D → List D → O1) (dfl : List D) (fa : Rho → R (List D × Rho)) : Rho → R (Nat × D × Rho) := fun ρ => (fa ρ).bind fun p => match Fn (.ins c []) (p.1 ++ dfl) with
  | .ok _ e => .ok (1, e, p.2)
  | .exc k w => .exc k w p.2
  | .bad => .bad
theorem Sim.newO' {F H : Hp} {ρ : Rho} {σ : L2.St} {A : Nat → List Addr} (s : Sim G Pn F ρ σ H A) {p : Addr} {o : HO} (hp : H p = none) : Sim G Pn F ρ σ (upd H p o) A ∧ Step F H A F (upd H p o) A := s.newO hp
theorem to_make {c ar : Nat} {Fn : D → List D → O1} {dfl : List D} {dvs : List V} {ta : TA} {fa : Rho → R (List D × Rho)} (hd : ∀ F, RepL G F dfl dvs) (ha : TAok G Pn W ta fa) (hl : ∀ ρ ds ρ', fa ρ = .ok (ds, ρ') → ds.length + dfl.length + 1 = ar)
    (hnon : ∀ ds d e, Fn (.ins c []) ds = .ok d e → d = .non) : TOok G Pn W (tMkS (G.cl c) (spec1 G 0 1 ar Fn) dvs (WE W) ta) (dMake c Fn dfl fa) := by
  intro F ρ σ H A Q s ok ex nb
  refine ha F ρ σ H A _ s (fun xs ρ1 e1 vs F1 H1 A1 s1 S1 r1 => ?_) (fun cc w ρ1 e1 => ex cc w ρ1 (R.bind_exc e1)) (R.bind_bad nb)
  have E1 : dMake c Fn dfl fa ρ = (match Fn (.ins c []) (xs ++ dfl) with
  | .ok _ e => .ok (1, e, ρ1)
  | .exc k w => .exc k w ρ1
  | .bad => .bad) := R.bind_ok e1
  rw [E1] at ok ex nb
  intro x dx hx hdx hne
  obtain ⟨S2, s2⟩ := S1.newO (o := .own x) hdx
  have hx2 : upd H1 dx (.own x) x = none := by rw [upd_ne (Ne.symm hne)]; exact hx
  obtain ⟨S3, s3⟩ := S2.newO (o := .ins (G.cl c) dx []) hx2
  have nA := S1.apart hx
  have own0 : Own G F1 (upd (upd H1 dx (.own x)) x (.ins (G.cl c) dx [])) (.ins c []) 1 (.ref x) [x] := by
    unfold Own
    refine .inr ⟨0, x, dx, [], [], rfl, rfl, ?_, Nat.zero_le _, OwnL.zero.mpr ⟨RepL.nil, rfl⟩, rfl⟩
    rw [upd_same]
    cases G.nm c <;> rfl
  have s123 := (s1.trans s2).trans s3
  refine ⟨.ref x, vs ++ dvs, .ins c [], xs ++ dfl, F1, [x], rfl, S3.sub, own0, ⟨fun a ha => ?_, fun a ha => .inl ha, by simp⟩, (r1.append (hd F1)), ?_, fun z => nb (by rw [z]), fun d e ed v F' H' l l' kp ow' fr' ow fr dj => ?_, fun cc w ed dx' v F' H' kp hx' rx => ?_⟩
  · rw [List.mem_singleton.mp ha]; exact S1.noF hx
  · rw [List.length_cons, List.length_append, ← r1.length, ← (hd F1).length]
    exact hl ρ xs ρ1 e1
  · have hdn := hnon _ _ _ ed
    subst hdn
    have hv := (Own.zero.mp ow).1
    refine ⟨rep_non hv, ?_⟩
    -- the instance is nobody's
    have kp0 : Kept F1 (upd (upd H1 dx (.own x)) x (.ins (G.cl c) dx [])) F' H' [x] := kp
    have th : ∀ i a, a ∈ A1 i → a ≠ x := fun i a ha z => nA i (by rw [← z]; exact ha)
    have S4 : Sim G Pn F' ρ1 σ H' A1 := by
      refine ⟨kp.sub, S3.len, fun i => (S3.sl i).mono kp.le fun a ha o e => kp.keep a o e (fun z => th i a ha (List.mem_singleton.mp z)), fun i a ha => ?_, S3.nd, S3.dj⟩
      cases q : F' a with
      | none => rfl
      | some u =>
        rcases kp.fre a u q with z | z | z
        · rw [S3.nf i a ha] at z; cases z
        · exact absurd (List.mem_singleton.mp z) (th i a ha)
        · exact absurd ha (S3.apart z i)
    have s4 : Step F1 H1 A1 F' H' A1 := ⟨kp.le, fun a o e n => kp.keep a o (s3.keep a o (s2.keep a o e n) n) (fun z => by rw [List.mem_singleton.mp z, hx] at e; cases e), fun a o e => by
      rcases kp.fre a o e with z | z | z
      · exact .inl z
      · rw [List.mem_singleton.mp z]; exact .inr (.inr hx)
      · refine .inr ((s2.trans s3).back (.inr z)), fun i a ha => .inl ⟨i, ha⟩⟩
    have fr1 : ∀ a ∈ l', H1 a = none := fun a ha => by
      rcases fr'.fr a ha with z | z
      · rw [List.mem_singleton.mp z]; exact hx
      · cases q : H1 a with
        | none => rfl
        | some u =>
          by_cases h1 : a = x
          · rw [h1, hx] at q; cases q
          · by_cases h2 : a = dx
            · rw [h2, hdx] at q; cases q
            · rw [upd_ne h1, upd_ne h2, q] at z; cases z
    refine ok 1 e ρ1 (by rw [ed]) (.ref x) F' H' A1 l' (s1.trans s4) S4 ⟨ow', fr'.nf, fun a ha i hi => S1.apart (fr1 a ha) i hi, fr'.nd⟩ fun a ha => s1.back (.inr (fr1 a ha))
  · have th : ∀ i a, a ∈ A1 i → a ≠ x := fun i a ha z => nA i (by rw [← z]; exact ha)
    have S4 : Sim G Pn F' ρ1 σ H' A1 := by
      refine ⟨kp.sub, S3.len, fun i => (S3.sl i).mono kp.le fun a ha o e => kp.keep a o e (fun z => th i a ha (List.mem_singleton.mp z)), fun i a ha => ?_, S3.nd, S3.dj⟩
      cases q : F' a with
      | none => rfl
      | some u =>
        rcases kp.fre a u q with z | z | z
        · rw [S3.nf i a ha] at z; cases z
        · exact absurd (List.mem_singleton.mp z) (th i a ha)
        · exact absurd ha (S3.apart z i)
    have s4 : Step F1 H1 A1 F' H' A1 := ⟨kp.le, fun a o e n => kp.keep a o (s3.keep a o (s2.keep a o e n) n) (fun z => by rw [List.mem_singleton.mp z, hx] at e; cases e), fun a o e => by
      rcases kp.fre a o e with z | z | z
      · exact .inl z
      · rw [List.mem_singleton.mp z]; exact .inr (.inr hx)
      · refine .inr ((s2.trans s3).back (.inr z)), fun i a ha => .inl ⟨i, ha⟩⟩
    exact ex cc w ρ1 (by rw [ed]) σ dx' v F' H' A1 (s1.trans s4) S4 hx' rx

/-! ### the instance that a slot owns -/
def ownI (j : Nat) (ρ : Rho) : Option (Bool × Nat × List D) := match ρ[j]? with
  | some (.own io 1 (.ins c fs)) => some (io, c, fs)
  | _ => none
theorem ownI_of {j c : Nat} {ρ : Rho} {io : Bool} {fs : List D} (h : ownI j ρ = some (io, c, fs)) : ρ[j]? = some (.own io 1 (.ins c fs)) := by
  unfold ownI at h
  split at h
  · rename_i io' c' xs' e
    cases h
    exact e
  · cases h
theorem Sim.ownI {F H : Hp} {ρ : Rho} {σ : L2.St} {A : Nat → List Addr} (s : Sim G Pn F ρ σ H A) {j c : Nat} {io : Bool} {fs : List D} (h : DL.ownI j ρ = some (io, c, fs)) :
    ∃ a dx vs, σ[j]? = some (some (.ref a)) ∧ H a = some (.ins (G.cl c) dx ((G.nm c).zip vs)) ∧ vs.length ≤ (G.nm c).length ∧ RepL G F fs vs ∧ A j = [a] := by
  obtain ⟨v, ev, _, ow⟩ := s.own (ownI_of h)
  unfold Own at ow
  rcases ow with ⟨z, _⟩ | ⟨k', a, dx, vs, l', hk, rfl, ha, hz, ol, hl⟩
  · cases z
  · have : k' = 0 := by omega
    subst this
    obtain ⟨rl, rfl⟩ := OwnL.zero.mp ol
    exact ⟨a, dx, vs, ev, ha, hz, rl, hl⟩
/-- self.f, self owned -/
def dOwnFld (j c i : Nat) : Rho → R (D × Rho) := fun ρ => match ownI j ρ with
  | some (_, c', fs) => if c' = c then (O.ofD fs[i]?).toR ρ else .bad
  | none => .bad
theorem te_ownFld {j c i : Nat} {f : Str} (k : ClsOk G c) (hi : (G.nm c)[i]? = some f) : TEok G Pn W (tFld G.K (tVar j) f) (dOwnFld j c i) := by
  intro F ρ σ H A Q s ok ex nb
  unfold dOwnFld at ok nb
  cases q0 : ownI j ρ with
  | none => rw [q0] at nb; exact absurd rfl nb
  | some p =>
    obtain ⟨io, c', fs⟩ := p
    rw [q0] at ok nb
    dsimp only at ok nb
    by_cases h : c' = c
    · subst h
      rw [if_pos rfl] at ok nb
      obtain ⟨a, dx, vs, ev, ha, hz, rl, _⟩ := s.ownI q0
      cases q : fs[i]? with
      | none => rw [q] at nb; exact absurd rfl nb
      | some d =>
        rw [q] at ok
        obtain ⟨w, hw, rw'⟩ := rl.get' q
        exact ⟨.ref a, ev, a, G.cl c', dx, _, w, rfl, ha, k.cl, k.no f (List.mem_of_getElem? hi), zip_look k.nd hi hw, ok d ρ rfl _ F H A (Step.refl F H A) s rw'⟩
    · rw [if_neg h] at nb; exact absurd rfl nb
/-- a field stored: the i-th, which is there, or the next one -/
def setF (fs : List D) (i : Nat) (d : D) : Option (List D) := if i < fs.length then some (fs.set i d) else if i = fs.length then some (fs ++ [d]) else none
theorem putF_set {f : Str} {y : V} : ∀ {ns : List Str} {vs : List V} {i : Nat}, ns.Nodup → ns[i]? = some f → i < vs.length → putF f y (ns.zip vs) = ns.zip (vs.set i y)
  | [], _, i, _, h, _ => by simp at h
  | n :: ns, [], i, _, _, h => absurd h (Nat.not_lt_zero i)
  | n :: ns, w :: vs, 0, _, h, _ => by
    simp at h
    subst h
    rw [List.set_cons_zero, List.zip_cons_cons, List.zip_cons_cons]
    unfold putF
    rw [if_pos rfl]
  | n :: ns, w :: vs, i + 1, hn, h, hi => by
    rw [List.getElem?_cons_succ] at h
    rw [List.nodup_cons] at hn
    have hne : ¬ n = f := fun z => hn.1 (z ▸ List.mem_of_getElem? h)
    rw [List.set_cons_succ, List.zip_cons_cons, List.zip_cons_cons]
    unfold putF
    rw [if_neg hne, putF_set hn.2 h (by simpa using hi)]
theorem putF_new {f : Str} {y : V} : ∀ {ns : List Str} {vs : List V}, ns.Nodup → ns[vs.length]? = some f → putF f y (ns.zip vs) = ns.zip (vs ++ [y])
  | [], vs, _, h => by simp at h
  | n :: ns, [], _, h => by
    simp at h
    subst h
    show putF n y [] = (n :: ns).zip [y]
    rw [List.zip_cons_cons, List.zip_nil_right]
    rfl
  | n :: ns, w :: vs, hn, h => by
    rw [List.length_cons, List.getElem?_cons_succ] at h
    rw [List.nodup_cons] at hn
    have hne : ¬ n = f := fun z => hn.1 (z ▸ List.mem_of_getElem? h)
    rw [List.cons_append, List.zip_cons_cons, List.zip_cons_cons]
    unfold putF
    rw [if_neg hne, putF_new hn.2 h]
theorem zip_len_le {ns : List Str} {vs : List V} : (ns.zip vs).length ≤ ns.length := by rw [List.length_zip]; omega
theorem Sim.setI {F H : Hp} {ρ : Rho} {σ : L2.St} {A : Nat → List Addr} (s : Sim G Pn F ρ σ H A) {j c : Nat} {io : Bool} {fs gs : List D} {a dx : Addr} {us : List V} (h : DL.ownI j ρ = some (io, c, fs)) (hv : σ[j]? = some (some (.ref a))) (hA : A j = [a])
    (hz : us.length ≤ (G.nm c).length) (r : RepL G F gs us) : Sim G Pn F (ρ.set j (.own io 1 (.ins c gs))) σ (upd H a (.ins (G.cl c) dx ((G.nm c).zip us))) (updA A j [a]) ∧ Step F H A F (upd H a (.ins (G.cl c) dx ((G.nm c).zip us))) (updA A j [a]) := by
  refine s.write (ownI_of h) hv (fun b o e n => ?_) ?_ (by simp) fun b hb => .inl (by rw [hA]; exact hb)
  · rw [upd_ne (fun z => n (by rw [z, hA]; exact List.mem_singleton.mpr rfl))]
    exact e
  · unfold Own
    exact .inr ⟨0, a, dx, us, [], rfl, rfl, upd_same, hz, OwnL.zero.mpr ⟨r, rfl⟩, rfl⟩
def sOwnFld (j c i : Nat) (fe : Rho → R (D × Rho)) : Rho → S := fun ρ => (fe ρ).thn fun p => match ownI j p.2 with
  | some (io, c', fs) => if c' = c then (match setF fs i p.1 with
    | some gs => .nx (p.2.set j (.own io 1 (.ins c gs)))
    | none => .bad) else .bad
  | none => .bad
theorem put_fld {F H : Hp} {ρ : Rho} {σ : L2.St} {A : Nat → List Addr} (s : Sim G Pn F ρ σ H A) {j c i : Nat} {f : Str} (k : ClsOk G c) (hi : (G.nm c)[i]? = some f) {io : Bool} {fs gs : List D} {d : D} {v : V} (q0 : ownI j ρ = some (io, c, fs)) (q : setF fs i d = some gs) (r : Rep G F d v) :
    ∃ a dx vs, σ[j]? = some (some (.ref a)) ∧ H a = some (.ins (G.cl c) dx ((G.nm c).zip vs)) ∧ ((G.nm c).zip vs).length < 1000 ∧ Sim G Pn F (ρ.set j (.own io 1 (.ins c gs))) σ (upd H a (.ins (G.cl c) dx (putF f v ((G.nm c).zip vs)))) (updA A j [a]) ∧ Step F H A F (upd H a (.ins (G.cl c) dx (putF f v ((G.nm c).zip vs)))) (updA A j [a]) := by
  obtain ⟨a, dx, vs, ev, ha, hz, rl, hA⟩ := s.ownI q0
  refine ⟨a, dx, vs, ev, ha, Nat.lt_of_le_of_lt zip_len_le k.few, ?_⟩
  have hin : i < (G.nm c).length := (List.getElem?_eq_some_iff.mp hi).1
  unfold setF at q
  by_cases h1 : i < fs.length
  · rw [if_pos h1] at q
    cases q
    rw [putF_set k.nd hi (by rw [← rl.length]; exact h1)]
    exact s.setI q0 ev hA (by rw [List.length_set]; exact hz) (rl.set i r)
  · rw [if_neg h1] at q
    by_cases h2 : i = fs.length
    · rw [if_pos h2] at q
      cases q
      have e : i = vs.length := h2.trans rl.length
      rw [putF_new k.nd (by rw [← e]; exact hi)]
      exact s.setI q0 ev hA (by rw [List.length_append, List.length_singleton]; omega) (rl.append (RepL.one r))
    · rw [if_neg h2] at q; cases q
theorem ts_ownFld {j c i : Nat} {f : Str} {te : TE} {fe : Rho → R (D × Rho)} (k : ClsOk G c) (hi : (G.nm c)[i]? = some f) (he : TEok G Pn W te fe) : TSok G Pn W (sFld G.K (tVar j) te f) (sOwnFld j c i fe) := by
  intro F ρ σ H A E s nx bk ct rt ex nb
  refine he F ρ σ H A _ s (fun d ρ1 e1 v F1 H1 A1 s1 S1 r1 => ?_) (fun cc w ρ1 e1 => ex cc w ρ1 (R.thn_exc e1)) (R.thn_bad nb)
  have E1 : sOwnFld j c i fe ρ = (match ownI j ρ1 with
  | some (io, c', fs) => if c' = c then (match setF fs i d with
    | some gs => .nx (ρ1.set j (.own io 1 (.ins c gs)))
    | none => .bad) else .bad
  | none => .bad) := R.thn_ok e1
  rw [E1] at nx nb
  cases q0 : ownI j ρ1 with
  | none => rw [q0] at nb; exact absurd rfl nb
  | some p =>
    obtain ⟨io, c', fs⟩ := p
    rw [q0] at nx nb
    dsimp only at nx nb
    by_cases h : c' = c
    · subst h
      rw [if_pos rfl] at nx nb
      cases q : setF fs i d with
      | none => rw [q] at nb; exact absurd rfl nb
      | some gs =>
        rw [q] at nx
        obtain ⟨a, dx, vs, ev, ha, hfew, S2, s2⟩ := put_fld S1 k hi q0 q r1
        exact ⟨.ref a, ev, a, G.cl c', dx, _, rfl, ha, k.cl, k.no f (List.mem_of_getElem? hi), hfew, nx _ rfl σ F1 _ _ (s1.trans s2) S2⟩
    · rw [if_neg h] at nb; exact absurd rfl nb
/-- self.f += e, whole numbers -/
def sOwnAug (j c i : Nat) (g : Int → Int → Int) (fe : Rho → R (D × Rho)) : Rho → S := fun ρ => match ownI j ρ with
  | some (_, c0, fs0) => if c0 = c then (match fs0[i]? with
    | some (.int n) => (fe ρ).thn fun p => (match ownI j p.2, p.1 with
      | some (io, c', fs), .int m => if c' = c then (match setF fs i (.int (g n m)) with
        | some gs => .nx (p.2.set j (.own io 1 (.ins c gs)))
        | none => .bad) else .bad
      | _, _ => .bad)
    | _ => .bad) else .bad
  | none => .bad
end
end DL
end
noncomputable section
set_option maxRecDepth 100000
set_option maxHeartbeats 400000
/-! ## DL10: isinstance, in, range with a step, written dicts, own classes by form -/
namespace DL
open PySem PySem.Spec PyProof.Rows L2
section
variable {G : Gam} {Pn : Nat → V} {W : WX}

/-! ### isinstance -/
structure InsOk (G : Gam) (c : Nat) : Prop where
  cl : Cls G.K (G.cl c)
  ha : PySem.W.findIn G.K (.ref (G.cl c)) "__class__" = some (some (.builtin "object.__class__"))
  hn : PySem.W.specialIn G.K (.builtin "object.__class__") "__get__" = some (some (.builtin "getset_descriptor.__get__"))
  htk : PySem.W.takesIn G.K (.builtin "object.__class__") = some true
  hm : PySem.W.mroIn G.K (G.cl c) (.type "object") = some true
def tyN : D → Option String
  | .non => some "NoneType"
  | .bl _ => some "bool"
  | .int _ => some "int"
  | .str _ => some "str"
  | .lst _ => some "list"
  | .tup _ => some "tuple"
  | _ => none
def isB (t T : String) : Bool := t == T || (t == "bool" && T == "int")
def TyGood (T : String) : Prop := ∀ t ∈ (["NoneType", "bool", "int", "str", "list", "tuple"] : List String), kitB t T = some (isB t T)
theorem ty_int : TyGood "int" := by unfold TyGood; decide +kernel
theorem ty_bool : TyGood "bool" := by unfold TyGood; decide +kernel
theorem ty_str : TyGood "str" := by unfold TyGood; decide +kernel
theorem ty_list : TyGood "list" := by unfold TyGood; decide +kernel
theorem ty_tuple : TyGood "tuple" := by unfold TyGood; decide +kernel
theorem tyN_of {F H : Hp} {d : D} {v : V} {t : String} (le : Le F H) (r : Rep G F d v) (h : tyN d = some t) : t ∈ (["NoneType", "bool", "int", "str", "list", "tuple"] : List String) ∧ TyX G.K H v (.type t) := by
  unfold tyN at h
  split at h
  · cases h; cases rep_non r; exact ⟨by decide, .base .non⟩
  · cases h; cases rep_bl r; exact ⟨by decide, .base (.bl _)⟩
  · cases h; cases rep_int r; exact ⟨by decide, .base (.int _)⟩
  · cases h; cases rep_str r; exact ⟨by decide, .base (.str _)⟩
  · cases h; obtain ⟨a, us, rfl, h, _, _⟩ := rep_lst r; exact ⟨by decide, .base (.lst (le _ _ h))⟩
  · cases h; obtain ⟨a, us, rfl, h, _, _⟩ := rep_tup r; exact ⟨by decide, .base (.tup (le _ _ h))⟩
  · cases h
def oIsT (T : String) (d : D) : O := match tyN d with
  | some t => .ok (.bl (isB t T))
  | none => .bad
def oIsC (c : Nat) : D → O
  | .ins c' _ => if c' = c then .ok (.bl true) else .bad
  | _ => .bad
theorem te_isT {T : String} {tx : TE} {fx : Rho → R (D × Rho)} (g : TyGood T) (h : TEok G Pn W tx fx) : TEok G Pn W (tCB (rIsi G.K) (tCons tx (tCons (tC (.ty T)) tNil))) (dUn (oIsT T) fx) := by
  refine te_un (r := fun x H1 Q => rIsi G.K [x, .ty T] H1 Q) ?_ h
  intro F ρ σ H A x v Q s r ok nb ne
  unfold oIsT at ok nb
  cases q : tyN x with
  | none => rw [q] at nb; exact absurd rfl nb
  | some t =>
    rw [q] at ok
    obtain ⟨h1, h2⟩ := tyN_of s.sub r q
    exact ⟨v, .ty T, .type t, .type T, _, rfl, .ty T, h2, kit_ty (g t h1), ok _ rfl _ F H A (Step.refl F H A) s mk_bl⟩
theorem te_isC {c : Nat} {tx : TE} {fx : Rho → R (D × Rho)} (k : InsOk G c) (h : TEok G Pn W tx fx) : TEok G Pn W (tCB (rIsi G.K) (tCons tx (tCons (tC (.ref (G.cl c))) tNil))) (dUn (oIsC c) fx) := by
  refine te_un (r := fun x H1 Q => rIsi G.K [x, .ref (G.cl c)] H1 Q) ?_ h
  intro F ρ σ H A x v Q s r ok nb ne
  cases x with
  | ins c' fs =>
    rw [show oIsC c (.ins c' fs) = if c' = c then .ok (.bl true) else .bad from rfl] at ok nb
    by_cases e : c' = c
    · subst e
      rw [if_pos rfl] at ok
      obtain ⟨a, dx, us, rfl, hF, hlen, rl⟩ := rep_ins r
      exact ⟨.ref a, .ref (G.cl c'), .ref (G.cl c'), .ref (G.cl c'), true, rfl, .own _, .base (.ins (s.sub _ _ hF) k.cl k.ha k.hn k.htk k.hm), if_pos (beq_self_eq_true _), ok _ rfl _ F H A (Step.refl F H A) s mk_bl⟩
    · rw [if_neg e] at nb; exact absurd rfl nb
  | _ => exact absurd rfl nb

/-! ### in -/
def flatD : D → Bool
  | .non => true
  | .bl _ => true
  | .int _ => true
  | .str _ => true
  | _ => false
def eqF : D → D → Bool
  | .non, .non => true
  | .bl a, .bl b => a == b
  | .bl a, .int b => (if a then 1 else 0) == b
  | .int a, .bl b => a == (if b then 1 else 0)
  | .int a, .int b => a == b
  | .str a, .str b => a == b
  | _, _ => false
theorem flat_of {F : Hp} {d : D} {v : V} (r : Rep G F d v) (h : flatD d = true) : flatV v = true := by
  cases d with
  | non => cases rep_non r; rfl
  | bl b => cases rep_bl r; rfl
  | int b => cases rep_int r; rfl
  | str b => cases rep_str r; rfl
  | _ => cases h
theorem eqF_of {F : Hp} {d e : D} {v u : V} (r : Rep G F d v) (q : Rep G F e u) (h : flatD d = true) (k : flatD e = true) : eqV v u = eqF d e := by
  cases d with
  | non => cases rep_non r; cases e with
    | non => cases rep_non q; rfl
    | bl b => cases rep_bl q; rfl
    | int b => cases rep_int q; rfl
    | str b => cases rep_str q; rfl
    | _ => cases k
  | bl a => cases rep_bl r; cases e with
    | non => cases rep_non q; rfl
    | bl b => cases rep_bl q; rfl
    | int b => cases rep_int q; rfl
    | str b => cases rep_str q; rfl
    | _ => cases k
  | int a => cases rep_int r; cases e with
    | non => cases rep_non q; rfl
    | bl b => cases rep_bl q; rfl
    | int b => cases rep_int q; rfl
    | str b => cases rep_str q; rfl
    | _ => cases k
  | str a => cases rep_str r; cases e with
    | non => cases rep_non q; rfl
    | bl b => cases rep_bl q; rfl
    | int b => cases rep_int q; rfl
    | str b => cases rep_str q; rfl
    | _ => cases k
  | _ => cases h
theorem in_of {F : Hp} {x : D} {v : V} (r : Rep G F x v) (h : flatD x = true) : ∀ {xs : List D} {vs : List V}, RepL G F xs vs → xs.all flatD = true → vs.all flatV = true ∧ inV v vs = xs.any (fun y => eqF y x)
  | [], _, q, _ => by cases repl_nil q; exact ⟨rfl, rfl⟩
  | y :: ys, _, q, a => by
    unfold RepL at q
    obtain ⟨u, ur, rfl, q1, q2⟩ := q
    rw [List.all_cons, Bool.and_eq_true] at a
    obtain ⟨h1, h2⟩ := in_of r h q2 a.2
    refine ⟨?_, ?_⟩
    · rw [List.all_cons, flat_of q1 a.1, h1]; rfl
    · unfold inV at h2 ⊢
      rw [List.any_cons, List.any_cons, h2, eqF_of q1 r a.1 h]
def inL (neg : Bool) (x : D) (xs : List D) : O := if (flatD x && xs.all flatD) = true then .ok (.bl (if neg then !(xs.any fun y => eqF y x) else xs.any fun y => eqF y x)) else .bad
def sgn (x : Str) : Option Nat := match x.cps.toList with
  | [c] => some c
  | _ => none
theorem sgn_of {x : Str} {c : Nat} (h : sgn x = some c) : x = ⟨#[c]⟩ := by
  unfold sgn at h
  split at h
  · rename_i c' e
    cases h
    cases x with
    | mk cps =>
      congr 1
      exact Array.toList_inj.mp e
  · cases h
def oIn (neg : Bool) : D → D → O
  | x, .lst ys => inL neg x ys
  | x, .tup ys => inL neg x ys
  | .str x, .str z => match sgn x with
    | some c => .ok (.bl (if neg then !decide (c ∈ z.cps.toList) else decide (c ∈ z.cps.toList)))
    | none => .bad
  | _, _ => .bad
def rInA (K : PySem.W.Frag) (neg : Bool) : R2 := fun x y H Q => rIn K neg x y H Q ∨ (∃ (c : Nat) (z : Str), x = .str ⟨#[c]⟩ ∧ y = .str z ∧ Q (.bl (if neg then !decide (c ∈ z.cps.toList) else decide (c ∈ z.cps.toList))) H)
theorem op_inA {X : Cx} : OpR X (compareOp .In) (rInA X.K false) := op_in_seq.or op_in_sign
theorem op_ninA {X : Cx} : OpR X (compareOp .NotIn) (rInA X.K true) := op_notIn_seq.or op_notIn_sign
theorem v2_in {neg : Bool} : V2ok G Pn W (rInA G.K neg) (oIn neg) := by
  intro F ρ σ H A x y v u Q s rx ry ok nb ne
  have go : ∀ (ys : List D) (p : Addr) (us : List V), u = .ref p → (SqL G.K H p us ∨ SqT G.K H p us) → RepL G F ys us → (∀ d, inL neg x ys = .ok d → ∀ w F' H' A', Step F H A F' H' A' → Sim G Pn F' ρ σ H' A' → Rep G F' d w → Q w H') → inL neg x ys ≠ .bad → rIn G.K neg v u H Q := by
    intro ys p us e hs rl ok nb
    unfold inL at ok nb
    by_cases c : (flatD x && ys.all flatD) = true
    · rw [if_pos c] at ok
      rw [Bool.and_eq_true] at c
      obtain ⟨h1, h2⟩ := in_of rx c.1 rl c.2
      refine ⟨p, us, e, hs, flat_of rx c.1, h1, ?_⟩
      rw [h2]
      exact ok _ rfl _ F H A (Step.refl F H A) s mk_bl
    · rw [if_neg c] at nb; exact absurd rfl nb
  cases y with
  | lst ys =>
    obtain ⟨a, us, rfl, h, hz, rl⟩ := rep_lst ry
    have e : oIn neg x (.lst ys) = inL neg x ys := by cases x <;> rfl
    rw [e] at ok nb
    exact .inl (go ys a us rfl (.inl (SqL.of (s.sub _ _ h))) rl ok nb)
  | tup ys =>
    obtain ⟨a, us, rfl, h, hz, rl⟩ := rep_tup ry
    have e : oIn neg x (.tup ys) = inL neg x ys := by cases x <;> rfl
    rw [e] at ok nb
    exact .inl (go ys a us rfl (.inr (SqT.of (s.sub _ _ h))) rl ok nb)
  | str z =>
    cases x with
    | str x =>
      rw [show oIn neg (.str x) (.str z) = (match sgn x with
    | some c => .ok (.bl (if neg then !decide (c ∈ z.cps.toList) else decide (c ∈ z.cps.toList)))
    | none => .bad) from rfl] at ok nb
      cases q : sgn x with
      | none => rw [q] at nb; exact absurd rfl nb
      | some c =>
        rw [q] at ok
        refine .inr ⟨c, z, by rw [rep_str rx, sgn_of q], rep_str ry, ok _ rfl _ F H A (Step.refl F H A) s mk_bl⟩
    | _ => exact absurd rfl nb
  | _ => cases x <;> exact absurd rfl nb

/-! ### range with a step -/
def rg3N (i j c : Int) : Nat := (Builtin.Range.rangeSize i j c).toNat
def rg3Ok (i j c : Int) : Bool := cdec (c ≠ 0 ∧ c.natAbs < 1073741824 ∧ Builtin.Range.small i j c = true ∧ Builtin.Range.rangeSize i j c = (rg3N i j c : Int) ∧ rg3N i j c ≤ 16777216)
def rg3D (i c : Int) (n : Nat) : List D := (List.range n).map fun k => D.int (i + (k : Nat) * c)
theorem rg3D_length {i c : Int} {n : Nat} : (rg3D i c n).length = n := by unfold rg3D; rw [List.length_map, List.length_range]
theorem rg3D_get {i c : Int} {n k : Nat} {d : D} (h : (rg3D i c n)[k]? = some d) : k < n ∧ d = .int (i + (k : Nat) * c) := by
  unfold rg3D at h
  rw [List.getElem?_map] at h
  by_cases hi' : k < n
  · rw [List.getElem?_range hi'] at h
    exact ⟨hi', (Option.some.inj h).symm⟩
  · rw [List.getElem?_eq_none (by rw [List.length_range]; omega)] at h
    cases h
theorem itc_ok {F : Hp} {i c : Int} {n : Nat} : ItOk G F (Itc i c n) (rg3D i c n) := by
  intro F1 H1 l1 l2 k
  refine ⟨fun d hd => ?_, fun h => ?_⟩
  · obtain ⟨h1, h2⟩ := rg3D_get hd
    subst h2
    refine ⟨h1, fun x H2 hy => .inl ⟨hy.1, ?_⟩⟩
    unfold Rep
    exact hy.2
  · rw [rg3D_length] at h
    exact h
def asRg3 (ρ : Rho) : List D → R (List D × Rho)
  | [.int a, .int b, .int c] => if rg3Ok a b c = true then .ok (rg3D a c (rg3N a b c), ρ) else .bad
  | _ => .bad
def iRg3 (f : Rho → R (List D × Rho)) : Rho → R (List D × Rho) := fun ρ => (f ρ).bind fun p => asRg3 p.2 p.1
theorem asRg3_of {ρ : Rho} {xs : List D} (h : asRg3 ρ xs ≠ .bad) : ∃ a b c, xs = [.int a, .int b, .int c] ∧ rg3Ok a b c = true := by
  unfold asRg3 at h
  split at h
  · rename_i a b c
    by_cases q : rg3Ok a b c = true
    · exact ⟨a, b, c, rfl, q⟩
    · rw [if_neg q] at h; exact absurd rfl h
  · exact absurd rfl h
theorem repl_ints3 {F : Hp} {a b c : Int} {vs : List V} (h : RepL G F [.int a, .int b, .int c] vs) : vs = [.int a, .int b, .int c] := by
  unfold RepL at h
  obtain ⟨v, vr, rfl, r, h⟩ := h
  obtain ⟨u, w, rfl, r2, r3⟩ := repl_two h
  rw [rep_int r, rep_int r2, rep_int r3]
theorem ti_rg3 {t : TA} {f : Rho → R (List D × Rho)} (h : TAok G Pn W t f) : TIok G Pn W (iRng3 t) (iRg3 f) := by
  intro F ρ σ H A Q s ok ex nb
  refine h F ρ σ H A _ s (fun xs ρ1 e1 vs F1 H1 A1 s1 S1 r1 => ?_) (fun c w ρ1 e1 => ex c w ρ1 (R.bind_exc e1)) (R.bind_bad nb)
  have E1 : iRg3 f ρ = asRg3 ρ1 xs := R.bind_ok e1
  rw [E1] at ok nb
  obtain ⟨a, b, c, rfl, g⟩ := asRg3_of nb
  rw [show asRg3 ρ1 [D.int a, D.int b, D.int c] = if rg3Ok a b c = true then .ok (rg3D a c (rg3N a b c), ρ1) else .bad from rfl, if_pos g] at ok
  unfold rg3Ok at g
  rw [cdec_eq] at g
  obtain ⟨g1, g2, g3, g4, g5⟩ := g
  refine ⟨a, b, c, rg3N a b c, repl_ints3 r1, ⟨g1, g2, g3, g4⟩, ?_⟩
  exact ok _ ρ1 rfl _ F1 H1 A1 s1 S1 itc_ok (by rw [rg3D_length, sizeLine_eq]; exact g5)

/-! ### dicts of the module with text keys -/
def oKd (get : Str → Option D) : D → O
  | .str z => match get z with
    | some d => .ok d
    | none => .bad
  | _ => .bad
def KdOk (G : Gam) (w : World) (p : Addr) (get : Str → Option D) : Prop := ∀ z d, get z = some d → ∃ v, KDct G.K w p z v ∧ ∀ F, Rep G F d v
theorem te_kd {w : World} {p : Addr} {get : Str → Option D} {tk : TE} {fk : Rho → R (D × Rho)} (hg : KdOk G w p get) (h : TEok G Pn W tk fk) : TEok G Pn W (tOp (rIxD G.K w) (tC (.ref p)) tk) (dUn (oKd get) fk) := by
  refine te_un (r := fun x H1 Q => rIxD G.K w (.ref p) x H1 Q) ?_ h
  intro F ρ σ H A x v Q s r ok nb ne
  cases x with
  | str z =>
    rw [show oKd get (.str z) = (match get z with
    | some d => .ok d
    | none => .bad) from rfl] at ok nb
    cases q : get z with
    | none => rw [q] at nb; exact absurd rfl nb
    | some d =>
      rw [q] at ok
      obtain ⟨u, ku, ru⟩ := hg z d q
      exact ⟨p, z, u, rfl, rep_str r, ku, ok d rfl u F H A (Step.refl F H A) s (ru F)⟩
  | _ => exact absurd rfl nb
end

/-! ### by form -/
section
variable {C : Cxt} {a b e : Expr} {es : List Expr} {f fa fb : Rho → R (D × Rho)} {fs : Rho → R (List D × Rho)} {pos : Pos}
/-- isinstance(x, T) -/
theorem q_isT {x : Str} {T : String} {p p2 : Pos} (g : TyGood T) (hv : bootBuiltins x = some (.type T)) (hm : C.mg "isinstance" = none) (hx : C.mg x = none) (ha : QX C e f) (hg : ∀ i, Gl (C.X i) "isinstance" := by intro _; rfl) (hgx : ∀ i, Gl (C.X i) x := by intro _; rfl) (hn : x ≠ "__name__" := by decide)
    (hdb : (x == ("__debug__" : Str)) = false := by decide) (he : ∀ i, starEach [e, .Name x p2] (C.X i).env = (false, eval e (C.X i).env) :: starEach [.Name x p2] (C.X i).env := by intro _; rfl) (he2 : ∀ i, starEach [.Name x p2] (C.X i).env = (false, eval (.Name x p2) (C.X i).env) :: starEach [] (C.X i).env := by intro _; rfl) : QX C (.Call (.Name "isinstance" p) [e, .Name x p2] [] pos) (dUn (oIsT T) f) := by
  obtain ⟨t, h1, h2⟩ := ha
  refine ⟨tCB (rIsi C.G.K) (tCons t (tCons (tC (.ty T)) tNil)), fun i => ?_, te_isT g h2⟩
  have h := pe_callB (p := p) (pos := pos) (call_isi (X := C.X i)) (hg i) ((congrFun (C.hm i) _).trans hm) (by decide +kernel) (pa_cons (h1 i) (pa_cons (pe_bltn (pos := p2) (v := .ty T) (hgx i) ((congrFun (C.hm i) x).trans hx) hv rfl hn hdb) pa_nil (he2 i)) (he i)) (by decide) (by decide) (he i) rfl
  rw [C.hK i] at h
  exact h
/-- isinstance(x, C), x such a thing -/
theorem q_isC (c : Nat) {x : Str} {p p2 : Pos} (g : InsOk C.G c) (hx : C.mg x = some (.ref (C.G.cl c))) (hm : C.mg "isinstance" = none) (ha : QX C e f) (hg : ∀ i, Gl (C.X i) "isinstance" := by intro _; rfl) (hgx : ∀ i, Gl (C.X i) x := by intro _; rfl)
    (hdb : (x == ("__debug__" : Str)) = false := by decide) (he : ∀ i, starEach [e, .Name x p2] (C.X i).env = (false, eval e (C.X i).env) :: starEach [.Name x p2] (C.X i).env := by intro _; rfl) (he2 : ∀ i, starEach [.Name x p2] (C.X i).env = (false, eval (.Name x p2) (C.X i).env) :: starEach [] (C.X i).env := by intro _; rfl) : QX C (.Call (.Name "isinstance" p) [e, .Name x p2] [] pos) (dUn (oIsC c) f) := by
  obtain ⟨t, h1, h2⟩ := ha
  refine ⟨tCB (rIsi C.G.K) (tCons t (tCons (tC (.ref (C.G.cl c))) tNil)), fun i => ?_, te_isC g h2⟩
  have h := pe_callB (p := p) (pos := pos) (call_isi (X := C.X i)) (hg i) ((congrFun (C.hm i) _).trans hm) (by decide +kernel) (pa_cons (h1 i) (pa_cons (pe_glob (pos := p2) (v := .ref (C.G.cl c)) (hgx i) ((congrFun (C.hm i) x).trans hx) rfl hdb) pa_nil (he2 i)) (he i)) (by decide) (by decide) (he i) rfl
  rw [C.hK i] at h
  exact h
theorem q_in (ha : QX C a fa) (hb : QX C b fb) (hm : behindInMarks .In b = false := by rfl) : QX C (.Compare a [.In] [b] pos) (dOp (oIn false) fa fb) := q_cmpK (r := fun K => rInA K false) (fun _ => op_inA) v2_in ha hb hm
theorem q_nin (ha : QX C a fa) (hb : QX C b fb) (hm : behindInMarks .NotIn b = false := by rfl) : QX C (.Compare a [.NotIn] [b] pos) (dOp (oIn true) fa fb) := q_cmpK (r := fun K => rInA K true) (fun _ => op_ninA) v2_in ha hb hm
theorem qt_in (ha : QX C a fa) (hb : QX C b fb) (hm : behindInMarks .In b = false := by rfl) : QT C (.Compare a [.In] [b] pos) (dB (dOp (oIn false) fa fb)) := qt_cmpK (r := fun K => rInA K false) (fun _ => op_inA) v2_in ha hb hm
theorem qt_nin (ha : QX C a fa) (hb : QX C b fb) (hm : behindInMarks .NotIn b = false := by rfl) : QT C (.Compare a [.NotIn] [b] pos) (dB (dOp (oIn true) fa fb)) := qt_cmpK (r := fun K => rInA K true) (fun _ => op_ninA) v2_in ha hb hm
theorem qi_rg3 {tg e2 e3 : Expr} {p pos : Pos} {f2 f3 : Rho → R (D × Rho)} (hm : C.mg "range" = none) (h : QX C e f) (h2 : QX C e2 f2) (h3 : QX C e3 f3) (hg : ∀ i, Gl (C.X i) "range" := by intro _; rfl)
    (hs : ∀ i, starEach [e, e2, e3] (C.X i).env = (false, eval e (C.X i).env) :: starEach [e2, e3] (C.X i).env := by intro _; rfl) (hs2 : ∀ i, starEach [e2, e3] (C.X i).env = (false, eval e2 (C.X i).env) :: starEach [e3] (C.X i).env := by intro _; rfl)
    (hs3 : ∀ i, starEach [e3] (C.X i).env = (false, eval e3 (C.X i).env) :: starEach [] (C.X i).env := by intro _; rfl) (hpl : ∀ i, (backTo pos (starEach [e2, e3] (C.X i).env)).any (·.1) = false := by intro _; rfl) : QI C tg (.Call (.Name "range" p) [e, e2, e3] [] pos) (iRg3 (aCons f (aCons f2 (aCons f3 aNil)))) := by
  obtain ⟨t, a1, a2⟩ := h
  obtain ⟨u, b1, b2⟩ := h2
  obtain ⟨v, c1, c2⟩ := h3
  exact ⟨iRng3 (tCons t (tCons u (tCons v tNil))), fun i => pi_range3 (hg i) ((congrFun (C.hm i) _).trans hm) (pa_cons (a1 i) (pa_cons (b1 i) (pa_cons (c1 i) pa_nil (hs3 i)) (hs2 i)) (hs i)) (hs i) (hpl i), ti_rg3 (ta_cons a2 (ta_cons b2 (ta_cons c2 ta_nil)))⟩
/-- d[k], d a dict of the module -/
theorem q_kd {x : Str} {q : Addr} {p : Pos} {get : Str → Option D} (hk : KdOk C.G C.w q get) (hm : C.mg x = some (.ref q)) (hb : QX C b fb) (hs : PlainIx b := by intro _ _; rfl) (hg : ∀ i, Gl (C.X i) x := by intro _; rfl) (hdb : (x == ("__debug__" : Str)) = false := by decide) : QX C (.Subscript (.Name x p) b pos) (dUn (oKd get) fb) := by
  obtain ⟨tb, b1, b2⟩ := hb
  refine ⟨tOp (rIxD C.G.K C.w) (tC (.ref q)) tb, fun i => ?_, te_kd hk b2⟩
  have h := pe_ix (pos := pos) (ix_kdict (X := C.X i)) (pe_glob (pos := p) (v := .ref q) (hg i) ((congrFun (C.hm i) x).trans hm) rfl hdb) (b1 i) hs
  rw [C.hK i, C.hw i] at h
  exact h

/-! own classes -/
/-- self.f = e, self owned -/
theorem qs_fld (j c i : Nat) {x fl : Str} {p ps : Pos} {fe : Rho → R (D × Rho)} (k : ClsOk C.G c) (hi : (C.G.nm c)[i]? = some fl) (he : QX C e fe) (hN : ∀ i, (C.X i).N[j]? = some x := by intro _; rfl) (hv : ∀ i, Vis (C.X i).env.scope x := by intro _; first | exact Or.inl rfl | exact Or.inr (Or.inl rfl) | exact Or.inr (Or.inr rfl)) (hd : (x == ("__debug__" : Str)) = false := by decide)
    (hcd : (x == ("__classdict__" : Str)) = false := by decide) (hs : ∀ z, swapsWith e (some (.Attribute (.Name x p) fl ps)) pos.line (C.X z).env = pure false := by intro _; rfl) : QS C (.Assign [.Attribute (.Name x p) fl ps] e pos) (sOwnFld j c i fe) := by
  obtain ⟨te, e1, e2⟩ := he
  refine ⟨sFld C.G.K (tVar j) te fl, fun z => ?_, ts_ownFld k hi e2⟩
  have h := ps_fld (pe_var (X := C.X z) (pos := p) (hN z) (hv z) hd hcd) (e1 z) (hs z)
  rw [C.hK z] at h
  exact h
/-- self.f, self owned -/
theorem q_ofld (j c i : Nat) {x fl : Str} {p : Pos} (k : ClsOk C.G c) (hi : (C.G.nm c)[i]? = some fl) (hN : ∀ i, (C.X i).N[j]? = some x := by intro _; rfl) (hv : ∀ i, Vis (C.X i).env.scope x := by intro _; first | exact Or.inl rfl | exact Or.inr (Or.inl rfl) | exact Or.inr (Or.inr rfl)) (hd : (x == ("__debug__" : Str)) = false := by decide)
    (hcd : (x == ("__classdict__" : Str)) = false := by decide) (hb : ∀ i, attributeBase (.Name x p) fl (C.X i).env (eval (.Name x p) (C.X i).env) = eval (.Name x p) (C.X i).env := by intro _; rfl) : QX C (.Attribute (.Name x p) fl pos) (dOwnFld j c i) := by
  refine ⟨tFld C.G.K (tVar j) fl, fun z => ?_, te_ownFld k hi⟩
  have h := pe_fld (pos := pos) (pe_var (X := C.X z) (pos := p) (hN z) (hv z) hd hcd) (hb z)
  rw [C.hK z] at h
  exact h
/-- the method of that name -/
def MethOk (P : Program) (w : World) (G : Gam) (mg : Str → Option Value) (base : Heap) (c : Nat) (m : Str) (k : Nat) (sp : Sp) : Prop :=
  ∃ f fd ps, Cls G.K (G.cl c) ∧ Meth G.K (G.cl c) m f ∧ m ∉ G.nm c ∧ Binds G.K fd ps [] ∧ FnOk P w G.K mg base (L2.CX P w) k f fd ps sp
theorem q_methO {c k r ar : Nat} {m : Str} {o : Expr} {fo : Rho → R (D × Rho)} {apos : Pos} {pl : Sem Bool} {Fn : List D → O} (cm : MethOk C.P C.w C.G C.mg C.base c m k (spec0 C.G r ar Fn)) (hk : k ≤ C.lv) (ho : QX C o fo) (ha : QA C (e :: es) fs) (hl : (e :: es).length + 1 = ar := by rfl)
    (hst : ∀ i, starEach (e :: es) (C.X i).env = (false, eval e (C.X i).env) :: starEach es (C.X i).env := by intro _; rfl) (hpl : ∀ i, (backTo pos (starEach es (C.X i).env)).any (·.1) = false := by intro _; rfl)
    (ht : ∀ i, eval (.Call (.Attribute o m apos) (e :: es) [] pos) (C.X i).env = (do
      let ov ← eval o (C.X i).env
      standAt apos.atName
      let (f, first) ← holding [ov] (getMethod ov m pl)
      callWith pos f first (backTo pos (starEach (e :: es) (C.X i).env)) (backToKw pos (keywordEach [] (C.X i).env))) := by intro _; rfl) : QO C (.Call (.Attribute o m apos) (e :: es) [] pos) (dMeth0 c r Fn fo fs) := by
  obtain ⟨to, o1, o2⟩ := ho
  obtain ⟨t, h1, h2, h3⟩ := ha
  obtain ⟨f, fd, ps, hc, hmt, nm, bb, F⟩ := cm
  refine ⟨tMthS (C.G.cl c) m (spec0 C.G r ar Fn) (WE C.W) to t, fun i => ?_, to_meth0 nm o2 h2 fun ρ ds ρ' q => by rw [h3 ρ ds ρ' q]; exact hl⟩
  refine pe_mthS (CX := L2.CX (C.X i).prog (C.X i).w) (k := k) (fd := fd) (ps := ps) (pl := pl) (o1 i) (by rw [C.hK i]; exact hc) (f := f) (by rw [C.hK i]; exact hmt) ?_ ((C.room i).mono hk) (by rw [C.hK i]; exact bb) (fun σ => passAt (C.tk i) σ) (h1 i) (hst i) (hpl i) (ht i)
  rw [C.hP i, C.hw i, C.hK i, C.hm i, C.hb i]
  exact F
theorem q_meth0 {c k r : Nat} {m : Str} {o : Expr} {fo : Rho → R (D × Rho)} {apos : Pos} {pl : Sem Bool} {Fn : List D → O} (cm : MethOk C.P C.w C.G C.mg C.base c m k (spec0 C.G r 1 Fn)) (hk : k ≤ C.lv) (ho : QX C o fo)
    (ht : ∀ i, eval (.Call (.Attribute o m apos) [] [] pos) (C.X i).env = (do
      let ov ← eval o (C.X i).env
      standAt apos.atName
      let (f, first) ← holding [ov] (getMethod ov m pl)
      callWith pos f first (backTo pos (starEach [] (C.X i).env)) (backToKw pos (keywordEach [] (C.X i).env))) := by intro _; rfl) : QO C (.Call (.Attribute o m apos) [] [] pos) (dMeth0 c r Fn fo aNil) := by
  obtain ⟨to, o1, o2⟩ := ho
  obtain ⟨f, fd, ps, hc, hmt, nm, bb, F⟩ := cm
  refine ⟨tMthS (C.G.cl c) m (spec0 C.G r 1 Fn) (WE C.W) to tNil, fun i => ?_, to_meth0 nm o2 ta_nil fun ρ ds ρ' q => by cases q; rfl⟩
  refine pe_mthS0 (CX := L2.CX (C.X i).prog (C.X i).w) (k := k) (fd := fd) (ps := ps) (pl := pl) (o1 i) (by rw [C.hK i]; exact hc) (f := f) (by rw [C.hK i]; exact hmt) ?_ ((C.room i).mono hk) (by rw [C.hK i]; exact bb) (fun σ => passAt (C.tk i) σ) (ht i)
  rw [C.hP i, C.hw i, C.hK i, C.hm i, C.hb i]
  exact F
/-- the class of that name, with its __init__ and what is set if less is passed -/
def MakeOk (P : Program) (w : World) (G : Gam) (mg : Str → Option Value) (base : Heap) (x : Str) (c : Nat) (k : Nat) (dfl : List D) (sp : Sp) : Prop :=
  ∃ f fd ps dvs ds, mg x = some (.ref (G.cl c)) ∧ Mk G.K (G.cl c) f ∧ Binds G.K fd ps ds ∧ Vals dvs ds ∧ (∀ F, RepL G F dfl dvs) ∧ FnOk P w G.K mg base (L2.CX P w) k f fd ps sp
theorem q_makeO {x : Str} {p : Pos} {c k ar : Nat} {dfl : List D} {Fn : D → List D → O1} (cm : MakeOk C.P C.w C.G C.mg C.base x c k dfl (spec1 C.G 0 1 ar Fn)) (hk : k + 1 ≤ C.lv) (ha : QA C (e :: es) fs) (hnon : ∀ ds d e, Fn (.ins c []) ds = .ok d e → d = .non) (hl : (e :: es).length + dfl.length + 1 = ar := by rfl) (hg : ∀ i, Gl (C.X i) x := by intro _; rfl) (hdb : (x == ("__debug__" : Str)) = false := by decide)
    (he : ∀ i, starEach (e :: es) (C.X i).env = (false, eval e (C.X i).env) :: starEach es (C.X i).env := by intro _; rfl) (hpl : ∀ i, (backTo pos (starEach es (C.X i).env)).any (·.1) = false := by intro _; rfl) : QO C (.Call (.Name x p) (e :: es) [] pos) (dMake c Fn dfl fs) := by
  obtain ⟨t, h1, h2, h3⟩ := ha
  obtain ⟨f, fd, ps, dvs, ds, gx, M, bb, hd, hr, F⟩ := cm
  refine ⟨tMkS (C.G.cl c) (spec1 C.G 0 1 ar Fn) dvs (WE C.W) t, fun i => ?_, to_make hr h2 (fun ρ ds ρ' q => by rw [h3 ρ ds ρ' q]; exact hl) hnon⟩
  refine pe_mkS (CX := L2.CX (C.X i).prog (C.X i).w) (k := k) (fd := fd) (ps := ps) (f := f) (ds := ds) (by rw [C.hK i]; exact M) ?_ ((C.room i).mono hk) (hg i) ((congrFun (C.hm i) x).trans gx) (by rw [C.hK i]; exact bb) hd (fun σ => passAt (C.tk i) σ) (h1 i) hdb (he i) (hpl i)
  rw [C.hP i, C.hw i, C.hK i, C.hm i, C.hb i]
  exact F
end
end DL
end
noncomputable section
set_option maxRecDepth 100000
set_option maxHeartbeats 400000
/-! ## DL11: defs by their places -/
namespace DL
open PySem PySem.Spec PyProof.Rows L2
/-- a def of the top without defaults -/
def DefAt (K : PySem.W.Frag) (mg : Str → Option Value) (x qual : Str) (st : Stmt) (ps : List Str) : Prop :=
  ∃ f fd, mg x = some (.ref f) ∧ PySem.W.keepIn K (.ref f) = true ∧ Fun K x qual st f fd ∧ Binds K fd ps []
theorem defAt_mk {K : PySem.W.Frag} {h : Heap} {mg : Str → Option Value} {x qual : Str} {st : Stmt} {ps : List Str} {f : Addr} {oc : Value} {od an : Option Addr} {osl : Array (Option Value)} {kV doc pm cdv ct : Value} (X : K.In h) (G : h.Ns mainGlobals mg)
    (a : PySem.W.nsIn K mainGlobals x = some (some (.ref f))) (l : K.lookup f = some ⟨oc, od, .func (PySem.W.fnOf x qual (defArgs st) (defBody st) (defScope st) .none kV doc pm an cdv ct), osl⟩) (c : PySem.W.codeIn K cdv qual = true) (k : PySem.W.keepIn K (.ref f) = true)
    (b : ∀ (kV doc pm : Value) (an : Option Addr) (cdv ct : Value) (us : List Value), us.length = ps.length → bindArgs (PySem.W.fnOf x qual (defArgs st) (defBody st) (defScope st) .none kV doc pm an cdv ct) ⟨us, []⟩ = pure (ps.zip us)) : DefAt K mg x qual st ps :=
  ⟨f, _, PySem.W.mg_of X G a, k, fun_mk l c k, (fun_mk l c k).binds b⟩
/-- a method of a class, without defaults -/
def MetAt (K : PySem.W.Frag) (C : Addr) (x qual : Str) (st : Stmt) (ps : List Str) : Prop :=
  ∃ f fd, Meth K C x f ∧ Fun K x qual st f fd ∧ Binds K fd ps []
theorem metAt_mk {K : PySem.W.Frag} {C : Addr} {x qual : Str} {st : Stmt} {ps : List Str} {f : Addr} {oc : Value} {od an : Option Addr} {osl : Array (Option Value)} {kV doc pm cdv ct : Value}
    (a : PySem.W.findIn K (.ref C) x = some (some (.ref f))) (i : PySem.W.isFn K (.ref f) = true) (l : K.lookup f = some ⟨oc, od, .func (PySem.W.fnOf x qual (defArgs st) (defBody st) (defScope st) .none kV doc pm an cdv ct), osl⟩) (c : PySem.W.codeIn K cdv qual = true) (k : PySem.W.keepIn K (.ref f) = true)
    (b : ∀ (kV doc pm : Value) (an : Option Addr) (cdv ct : Value) (us : List Value), us.length = ps.length → bindArgs (PySem.W.fnOf x qual (defArgs st) (defBody st) (defScope st) .none kV doc pm an cdv ct) ⟨us, []⟩ = pure (ps.zip us)) : MetAt K C x qual st ps :=
  ⟨f, _, ⟨a, i, k⟩, fun_mk l c k, (fun_mk l c k).binds b⟩
/-- __init__ with defaults dvs behind what is passed -/
def IniAt (K : PySem.W.Frag) (C : Addr) (qual : Str) (st : Stmt) (ps : List Str) (dvs : List V) : Prop :=
  ∃ f fd, PySem.W.makesIn K C = true ∧ Mk K C f ∧ FunD K "__init__" qual (defArgs st) (defBody st) (defScope st) dvs [] f fd ∧ ∀ j, ∃ ds, Vals (dvs.drop j) ds ∧ Binds K fd ps ds
section
variable {P : Program} {w : World} {G : Gam} {mg : Str → Option Value} {base : Heap}
theorem def0D {x qual : Str} {params : Arguments} {bd : List Stmt} {scope : Scope} {dvs : List V} {kws : List (Str × V)} {f : Addr} {fd : FuncData} {N ps : List Str} {k r n ar : Nat} {fb : Rho → S} (F : FunD G.K x qual params bd scope dvs kws f fd) (S : FnScope N ps scope) (hn : N.length = n) (hp : ps.length = ar) (hpn : ar ≤ n)
    (body : ∀ (cdv : Value) (A : Around) (outer : List Env) (s : Shared) (H : Hp) (E : XK) (hr : Room k (A.deeper (envOfC qual scope s.heap.objs.size f cdv))), QSs (cxt0 P w G mg base (fun _ => .non) k N qual scope f cdv S.nd A outer s H E hr) bd fb) :
    FnOk P w G.K mg base (L2.CX P w) (k + 1) f fd ps (spec0 G r ar (fn0 n r fb)) := by
  refine F.ok S (fun vs H Q E h => ?_) (fun cdv A outer s H vs Q E hr h => ?_)
  · obtain ⟨ds, F', _, _, hl, _⟩ := h
    rw [hl, hp]
  · obtain ⟨t, t1, t2⟩ := body cdv A outer s H E hr
    exact ⟨t, t1 (), body0 t2 hn hpn h⟩
theorem def1D {x qual : Str} {params : Arguments} {bd : List Stmt} {scope : Scope} {dvs : List V} {kws : List (Str × V)} {f : Addr} {fd : FuncData} {N ps : List Str} {k r kk n ar : Nat} {fb : Rho → S} (F : FunD G.K x qual params bd scope dvs kws f fd) (S : FnScope N ps scope) (hn : N.length = n) (hp : ps.length = ar) (hpn : ar ≤ n)
    (body : ∀ (Pn : Nat → V) (cdv : Value) (A : Around) (outer : List Env) (s : Shared) (H : Hp) (E : XK) (hr : Room k (A.deeper (envOfC qual scope s.heap.objs.size f cdv))), QSs (cxt0 P w G mg base Pn k N qual scope f cdv S.nd A outer s H E hr) bd fb) :
    FnOk P w G.K mg base (L2.CX P w) (k + 1) f fd ps (spec1 G r kk ar (fn1 n r kk fb)) := by
  refine F.ok S (fun vs H Q E h => ?_) (fun cdv A outer s H vs Q E hr h => ?_)
  · obtain ⟨v0, vr, d0, dr, F', l0, _, _, _, _, _, hl, _⟩ := h
    rw [hl, hp]
  · have e0 : ∀ v0, ∃ t, PSs (cxOf (L2.CX P w) P w G.K mg base N qual scope f cdv A outer s H E) bd t ∧ TSok G (fun _ => v0) (fun cls d _ H => E cls d H) t fb := fun v0 => by
      obtain ⟨t, t1, t2⟩ := body (fun _ => v0) cdv A outer s H E hr
      exact ⟨t, t1 (), t2⟩
    have h' := h
    obtain ⟨v0, vr, d0, dr, F', l0, hvs, _⟩ := h'
    obtain ⟨t, t1, t2⟩ := e0 v0
    refine ⟨t, t1, body1 (fun v1 hv1 => ?_) hn hpn h⟩
    rw [hvs] at hv1
    cases hv1
    exact t2
/-- where nothing is promised -/
theorem fnOk_bad0 {f : Addr} {fd : FuncData} {ps : List Str} {k r ar : Nat} {CX : CXT} : FnOk P w G.K mg base CX k f fd ps (spec0 G r ar fun _ => .bad) :=
  ⟨fun vs H Q E h => by obtain ⟨_, _, _, _, _, z, _⟩ := h; exact absurd rfl z, fun A outer s H args us vs Q E _ _ _ _ h => by obtain ⟨_, _, _, _, _, z, _⟩ := h; exact absurd rfl z⟩
theorem fnOk_bad1 {f : Addr} {fd : FuncData} {ps : List Str} {k r kk ar : Nat} {CX : CXT} : FnOk P w G.K mg base CX k f fd ps (spec1 G r kk ar fun _ _ => .bad) :=
  ⟨fun vs H Q E h => by obtain ⟨_, _, _, _, _, _, _, _, _, _, _, _, z, _⟩ := h; exact absurd rfl z, fun A outer s H args us vs Q E _ _ _ _ h => by obtain ⟨_, _, _, _, _, _, _, _, _, _, _, _, z, _⟩ := h; exact absurd rfl z⟩
section
variable {x qual : Str} {st : Stmt} {N ps : List Str} {k r n ar kk : Nat} {fb : Rho → S}
abbrev Body0 (P : Program) (w : World) (G : Gam) (mg : Str → Option Value) (base : Heap) (k : Nat) (N ps : List Str) (qual : Str) (st : Stmt) (S : FnScope N ps (defScope st)) (fb : Rho → DL.S) : Prop :=
  ∀ (Pn : Nat → V) (f : Addr) (cdv : Value) (A : Around) (outer : List Env) (s : Shared) (H : Hp) (E : XK) (hr : Room k (A.deeper (envOfC qual (defScope st) s.heap.objs.size f cdv))), QSs (cxt0 P w G mg base Pn k N qual (defScope st) f cdv S.nd A outer s H E hr) (defBody st) fb
theorem dcl0 (D : DefAt G.K mg x qual st ps) (S : FnScope N ps (defScope st)) (body : Body0 P w G mg base k N ps qual st S fb) (hn : N.length = n := by rfl) (hp : ps.length = ar := by rfl) (hpn : ar ≤ n := by decide) : CallOk P w G.K mg base x (k + 1) (spec0 G r ar (fn0 n r fb)) := by
  obtain ⟨f, fd, gx, kp, F, bb⟩ := D
  exact ⟨f, fd, ps, gx, kp, bb, def0 F S hn hp hpn fun cdv A outer s H E hr => body _ f cdv A outer s H E hr⟩
theorem dcl1 (D : DefAt G.K mg x qual st ps) (S : FnScope N ps (defScope st)) (body : Body0 P w G mg base k N ps qual st S fb) (hn : N.length = n := by rfl) (hp : ps.length = ar := by rfl) (hpn : ar ≤ n := by decide) : CallOk P w G.K mg base x (k + 1) (spec1 G r kk ar (fn1 n r kk fb)) := by
  obtain ⟨f, fd, gx, kp, F, bb⟩ := D
  exact ⟨f, fd, ps, gx, kp, bb, def1 F S hn hp hpn fun Pn cdv A outer s H E hr => body Pn f cdv A outer s H E hr⟩
theorem dclB0 (D : DefAt G.K mg x qual st ps) : CallOk P w G.K mg base x k (spec0 G r ar fun _ => .bad) := by
  obtain ⟨f, fd, gx, kp, F, bb⟩ := D
  exact ⟨f, fd, ps, gx, kp, bb, fnOk_bad0⟩
theorem dclB1 (D : DefAt G.K mg x qual st ps) : CallOk P w G.K mg base x k (spec1 G r kk ar fun _ _ => .bad) := by
  obtain ⟨f, fd, gx, kp, F, bb⟩ := D
  exact ⟨f, fd, ps, gx, kp, bb, fnOk_bad1⟩
theorem dmt0 {c : Nat} (hc : Cls G.K (G.cl c)) (nm : x ∉ G.nm c) (D : MetAt G.K (G.cl c) x qual st ps) (S : FnScope N ps (defScope st)) (body : Body0 P w G mg base k N ps qual st S fb) (hn : N.length = n := by rfl) (hp : ps.length = ar := by rfl) (hpn : ar ≤ n := by decide) : MethOk P w G mg base c x (k + 1) (spec0 G r ar (fn0 n r fb)) := by
  obtain ⟨f, fd, me, F, bb⟩ := D
  exact ⟨f, fd, ps, hc, me, nm, bb, def0 F S hn hp hpn fun cdv A outer s H E hr => body _ f cdv A outer s H E hr⟩
theorem dmt1 {c : Nat} (hc : Cls G.K (G.cl c)) (nm : x ∉ G.nm c) (D : MetAt G.K (G.cl c) x qual st ps) (S : FnScope N ps (defScope st)) (body : Body0 P w G mg base k N ps qual st S fb) (hn : N.length = n := by rfl) (hp : ps.length = ar := by rfl) (hpn : ar ≤ n := by decide) : MethOk P w G mg base c x (k + 1) (spec1 G r kk ar (fn1 n r kk fb)) := by
  obtain ⟨f, fd, me, F, bb⟩ := D
  exact ⟨f, fd, ps, hc, me, nm, bb, def1 F S hn hp hpn fun Pn cdv A outer s H E hr => body Pn f cdv A outer s H E hr⟩
theorem dmk1 {c : Nat} {cx : Str} {dvs : List V} {dfl : List D} (hm : mg cx = some (.ref (G.cl c))) (j : Nat) (hd : ∀ F, RepL G F dfl (dvs.drop j)) (D : IniAt G.K (G.cl c) qual st ps dvs) (S : FnScope N ps (defScope st)) (body : Body0 P w G mg base k N ps qual st S fb) (hn : N.length = n := by rfl) (hp : ps.length = ar := by rfl) (hpn : ar ≤ n := by decide) : MakeOk P w G mg base cx c (k + 1) dfl (spec1 G 0 1 ar (fn1 n 0 1 fb)) := by
  obtain ⟨f, fd, _, M, F, bb⟩ := D
  obtain ⟨ds, h1, h2⟩ := bb j
  exact ⟨f, fd, ps, dvs.drop j, ds, hm, M, h2, h1, hd, def1D F S hn hp hpn fun Pn cdv A outer s H E hr => body Pn f cdv A outer s H E hr⟩
end
end
end DL
end
noncomputable section
set_option maxRecDepth 100000
set_option maxHeartbeats 400000
/-! ## DL12: names for the printed texts -/
namespace DL
open PySem PySem.Spec PyProof.Rows L2
/-- the attributes of the program's classes -/
def nmW : Nat → List Str
  | 0 => ["top", "bottom"]
  | 1 => ["signs", "place", "opened"]
  | 2 => ["letters", "start", "steps", "end"]
  | _ => ["what"]
/-- turns allowed: by a slot's whole number, or many -/
def mInt (j : Nat) : Rho → Nat := fun ρ => match ρ[j]? with
  | some (.fro (.int i)) => i.natAbs + 1
  | _ => 0
def mBig : Rho → Nat := fun _ => 1000000
/-- never ends by return -/
def NoRt (f : Rho → S) : Prop := ∀ ρ k d ρ', f ρ ≠ .rt k d ρ'
theorem noRt_next : NoRt sNext := fun _ _ _ _ h => nomatch h
theorem noRt_bad : NoRt sBad := fun _ _ _ _ h => nomatch h
theorem noRt_seq {f g : Rho → S} (a : NoRt f) (b : NoRt g) : NoRt (sSeq f g) := by
  intro ρ k d ρ' h
  unfold sSeq at h
  cases q : f ρ with
  | nx r => rw [q] at h; exact b _ _ _ _ h
  | rt j e r => exact a _ _ _ _ q
  | bk r => rw [q] at h; cases h
  | ct r => rw [q] at h; cases h
  | exc c w r => rw [q] at h; cases h
  | bad => rw [q] at h; cases h
theorem thn_rt {α : Type} {r : R α} {g : α → S} {k : Nat} {d : D} {ρ' : Rho} (h : r.thn g = .rt k d ρ') : ∃ a, r = .ok a ∧ g a = .rt k d ρ' := by
  cases r with
  | ok a => exact ⟨a, rfl, h⟩
  | exc c w ρ => cases h
  | bad => cases h
theorem noRt_if {c : Rho → R (Bool × Rho)} {f g : Rho → S} (a : NoRt f) (b : NoRt g) : NoRt (sIf c f g) := by
  intro ρ k d ρ' h
  unfold sIf at h
  obtain ⟨p, _, h⟩ := thn_rt h
  split at h
  · exact a _ _ _ _ h
  · exact b _ _ _ _ h
theorem ofO_rt {o : Option Rho} {k : Nat} {d : D} {ρ' : Rho} (h : S.ofO o = .rt k d ρ') : False := by cases o <;> cases h
theorem noRt_asg {j : Nat} {f : Rho → R (D × Rho)} : NoRt (sAsg j f) := by
  intro ρ k d ρ' h
  unfold sAsg at h
  obtain ⟨p, _, h⟩ := thn_rt h
  exact ofO_rt h
theorem noRt_par {i j : Nat} {f g : Rho → R (D × Rho)} : NoRt (sPar i j f g) := by
  intro ρ k d ρ' h
  unfold sPar at h
  obtain ⟨p, _, h⟩ := thn_rt h
  obtain ⟨p, _, h⟩ := thn_rt h
  exact ofO_rt h
theorem noRt_fld {j c i : Nat} {f : Rho → R (D × Rho)} : NoRt (sOwnFld j c i f) := by
  intro ρ k d ρ' h
  unfold sOwnFld at h
  obtain ⟨p, _, h⟩ := thn_rt h
  split at h
  · split at h
    · split at h <;> cases h
    · cases h
  · cases h
theorem ioAt_non {k : Nat} {ρ : Rho} {d e : D} (h : ioAt k .non ρ = .ok d e) : d = .non := by
  unfold ioAt at h
  split at h
  · split at h
    · cases h; rfl
    · cases h
  · cases h
theorem fn1_non {n r : Nat} {f : Rho → S} {x : D} (h : NoRt f) : ∀ (ds : List D) (d e : D), fn1 n r 1 f x ds = .ok d e → d = .non := by
  intro ds d e q
  unfold fn1 at q
  cases z : f (initR1 n 1 x ds) with
  | nx ρ =>
    rw [z] at q
    have q : (if r = 0 then ioAt 1 .non ρ else .bad) = O1.ok d e := q
    by_cases c : r = 0
    · rw [if_pos c] at q; exact ioAt_non q
    · rw [if_neg c] at q; cases q
  | rt j y r => exact absurd z (h _ _ _ _)
  | bk r => rw [z] at q; cases q
  | ct r => rw [z] at q; cases q
  | exc c w r => rw [z] at q; cases q
  | bad => rw [z] at q; cases q
theorem fldH {G : Gam} {c : Nat} {f : Str} (h : ClsOk G c) (hn : G.nm = nmW) (m : f ∈ nmW c) : ∀ c' ∈ [c], ClsOk G c' ∧ f ∈ G.nm c' := by
  intro c' hc
  cases List.mem_singleton.mp hc
  exact ⟨h, by rw [hn]; exact m⟩
end DL
end
noncomputable section
set_option maxRecDepth 100000
set_option maxHeartbeats 400000
/-! ## DL13: the end of a law's proof -/
namespace DL
open PySem PySem.Spec PyProof.Rows L2
/-- what is promised of law: a list of at most 63 whole numbers comes in, True comes out -/
def spLaw (K : PySem.W.Frag) : Sp := fun vs H Q _ => ∃ (a : Addr) (ns : List Int), vs = [.ref a] ∧ SqL K H a (ns.map V.int) ∧ ns.length ≤ 63 ∧ (∀ z ∈ ns, Builtin.Int.intBits z ≤ 1048576) ∧ ∀ H', Q (.bl true) H'
def LawAt (K : PySem.W.Frag) (mg : Str → Option Value) (x : Str) (st : Stmt) (ps : List Str) : Prop :=
  ∃ f fd, mg x = some (.ref f) ∧ Fun K x x st f fd ∧ ∀ us : List Value, us.length = ps.length → bindArgs fd ⟨us, []⟩ = pure (ps.zip us)
theorem lawAt_mk {K : PySem.W.Frag} {h : Heap} {mg : Str → Option Value} {x : Str} {st : Stmt} {ps : List Str} {f : Addr} {oc : Value} {od an : Option Addr} {osl : Array (Option Value)} {kV doc pm cdv ct : Value} (X : K.In h) (G : h.Ns mainGlobals mg)
    (a : PySem.W.nsIn K mainGlobals x = some (some (.ref f))) (l : K.lookup f = some ⟨oc, od, .func (PySem.W.fnOf x x (defArgs st) (defBody st) (defScope st) .none kV doc pm an cdv ct), osl⟩) (c : PySem.W.codeIn K cdv x = true) (k : PySem.W.keepIn K (.ref f) = true)
    (b : ∀ (kV doc pm : Value) (an : Option Addr) (cdv ct : Value) (us : List Value), us.length = ps.length → bindArgs (PySem.W.fnOf x x (defArgs st) (defBody st) (defScope st) .none kV doc pm an cdv ct) ⟨us, []⟩ = pure (ps.zip us)) : LawAt K mg x st ps :=
  ⟨f, _, PySem.W.mg_of X G a, fun_mk l c k, b _ _ _ _ _ _⟩
theorem iniAt_mk {K : PySem.W.Frag} {C : Addr} {qual : Str} {st : Stmt} {ps : List Str} {f : Addr} {oc : Value} {od an : Option Addr} {osl : Array (Option Value)} {kV doc pm cdv ct : Value}
    (mk : PySem.W.makesIn K C = true) (a : PySem.W.findIn K (.ref C) "__init__" = some (some (.ref f))) (i : PySem.W.isFn K (.ref f) = true) (kc : PySem.W.keepIn K (.ref C) = true)
    (l : K.lookup f = some ⟨oc, od, .func (PySem.W.fnOf "__init__" qual (defArgs st) (defBody st) (defScope st) .none kV doc pm an cdv ct), osl⟩) (c : PySem.W.codeIn K cdv qual = true) (k : PySem.W.keepIn K (.ref f) = true)
    (b : ∀ (kV doc pm : Value) (an : Option Addr) (cdv ct : Value) (us : List Value), us.length = ps.length → bindArgs (PySem.W.fnOf "__init__" qual (defArgs st) (defBody st) (defScope st) .none kV doc pm an cdv ct) ⟨us, []⟩ = pure (ps.zip us)) : IniAt K C qual st ps [] :=
  ⟨f, _, mk, ⟨mk, a, i, kc⟩, ⟨⟨_, _, _, _, _, _, _, _, _, _, rfl, l, c, .inl ⟨rfl, rfl⟩, .inl rfl⟩, k⟩, fun j => ⟨[], by rw [List.drop_nil]; exact .nil, .all (b _ _ _ _ _ _)⟩⟩
/-- one default -/
theorem iniAt_mk1 {K : PySem.W.Frag} {C : Addr} {qual : Str} {st : Stmt} {ps : List Str} {f T : Addr} {oc : Value} {od an : Option Addr} {osl : Array (Option Value)} {kV doc pm cdv ct : Value} {dv : V} {du : Value} {oT : Obj} {nT : Nat}
    (mk : PySem.W.makesIn K C = true) (a : PySem.W.findIn K (.ref C) "__init__" = some (some (.ref f))) (i : PySem.W.isFn K (.ref f) = true) (kc : PySem.W.keepIn K (.ref C) = true)
    (l : K.lookup f = some ⟨oc, od, .func (PySem.W.fnOf "__init__" qual (defArgs st) (defBody st) (defScope st) (.ref T) kV doc pm an cdv ct), osl⟩) (c : PySem.W.codeIn K cdv qual = true) (k : PySem.W.keepIn K (.ref f) = true)
    (lT : K.lookup T = some oT) (dT : oT.data = .seq [du].toArray nT) (rv : RelV dv du)
    (b0 : ∀ (T : Addr) (kV doc pm : Value) (an : Option Addr) (cdv ct : Value) (us its : List Value), us.length + 1 = ps.length → its.length = 1 →
      ∃ k, bindArgs (PySem.W.fnOf "__init__" qual (defArgs st) (defBody st) (defScope st) (.ref T) kV doc pm an cdv ct) ⟨us, []⟩ = seqItems? (.ref T) >>= k ∧ k (some its.toArray) = pure (ps.zip (us ++ its.drop 0)))
    (b1 : ∀ (T : Addr) (kV doc pm : Value) (an : Option Addr) (cdv ct : Value) (us its : List Value), us.length = ps.length → its.length = 1 →
      ∃ k, bindArgs (PySem.W.fnOf "__init__" qual (defArgs st) (defBody st) (defScope st) (.ref T) kV doc pm an cdv ct) ⟨us, []⟩ = seqItems? (.ref T) >>= k ∧ k (some its.toArray) = pure (ps.zip (us ++ its.drop 1))) (hps : 0 < ps.length) : IniAt K C qual st ps [dv] := by
  have F : FunD K "__init__" qual (defArgs st) (defBody st) (defScope st) [dv] [] f (PySem.W.fnOf "__init__" qual (defArgs st) (defBody st) (defScope st) (.ref T) kV doc pm an cdv ct) :=
    ⟨⟨_, _, _, _, _, _, _, _, _, _, rfl, l, c, .inr ⟨by simp, T, oT, [du], nT, rfl, lT, dT, .cons rv .nil⟩, .inl rfl⟩, k⟩
  refine ⟨f, _, mk, ⟨mk, a, i, kc⟩, F, fun j => ?_⟩
  cases j with
  | zero => exact F.binds1 (ps.length - 1) 0 (by simp) (by simp; omega) fun T kV doc pm an cdv ct us its h1 h2 => b0 T kV doc pm an cdv ct us its (by omega) h2
  | succ j =>
    have h1 := F.binds1 (ps := ps) ps.length 1 (by simp) (by simp) fun T kV doc pm an cdv ct us its h1 h2 => b1 T kV doc pm an cdv ct us its h1 h2
    have e : ([dv] : List V).drop (j + 1) = ([dv] : List V).drop 1 := by simp
    rw [e]
    exact h1
section
variable {P : Program} {w : World} {G : Gam} {mg : Str → Option Value}
theorem law_end {st : Stmt} {N : List Str} {k n : Nat} {fb : Rho → S} {fa : Addr} (hfa : mg "law" = some (.ref fa)) (D : LawAt G.K mg "law" st ["script"]) (S : FnScope N ["script"] (defScope st))
    (plain : ∀ ns : List Int, ns.length ≤ 63 → (∀ z ∈ ns, Builtin.Int.intBits z ≤ 1048576) → fn0 n 0 fb [.scr ns] = .ok (.bl true))
    (body : ∀ base : Heap, G.K.In base → base.Ns mainGlobals mg → Body0 P w G mg base k N ["script"] "law" st S fb) (hn : N.length = n := by rfl) (hpn : 1 ≤ n := by decide) :
    ∃ fd : FuncData, (∀ (s : Shared) (v : Value), BindsTo s fd ⟨[v], []⟩ [("script", v)]) ∧ ∀ base : Heap, G.K.In base → base.Ns mainGlobals mg → FnOk P w G.K mg base (L2.CX P w) (k + 1) fa fd ["script"] (spLaw G.K) := by
  obtain ⟨f, fd, gx, F, bb⟩ := D
  rw [gx] at hfa
  cases hfa
  refine ⟨fd, fun s v => .of_eq (bb [v] rfl), fun base KX Gn => ?_⟩
  have h0 := def0 (r := 0) (ar := 1) F S hn rfl hpn (P := P) (w := w) (mg := mg) (base := base) (k := k) (fb := fb) fun cdv A outer s H E hr => body base KX Gn _ _ cdv A outer s H E hr
  refine h0.imp fun vs H Q E h => ?_
  obtain ⟨a, ns, rfl, hs, hl, hz, q⟩ := h
  have e := plain ns hl hz
  refine ⟨[.scr ns], H, Le.refl H, RepL.one (by unfold Rep; exact ⟨a, rfl, hs, Nat.le_trans hl (by decide)⟩), rfl, (by rw [e]; exact fun z => nomatch z), fun d ed v F' H' l kp ow fr => ?_, fun c w ec => by rw [e] at ec; cases ec⟩
  rw [e] at ed
  cases ed
  obtain ⟨r, _⟩ := Own.zero.mp ow
  rw [show v = .bl true by unfold Rep at r; exact r]
  exact q H'
theorem law_walk {l : PySem.W.OpenLaw} {q : Program} {loose : List Str} {XP : (Str → Option Value) → Heap → Prop} {YP : World → Heap → Prop} {d : DefRec} {K : Params → PySem.W.Frag} (k : Nat) (hr : Room k callerA) (hn : l.most = some 63) (hdf : d.params.defaults = [])
    (hY : ∀ (w : World) (h : Heap), YP w h → (K w.params).In h)
    (F : ∀ (w : World) (mg : Str → Option Value) (fa : Addr) (h : Heap), (K w.params).In h → h.Ns mainGlobals mg → mg d.name = some (.ref fa) →
      ∃ fd : FuncData, (∀ (s : Shared) (u : Value), BindsTo s fd ⟨[u], []⟩ [("script", u)]) ∧ ∀ base : Heap, (K w.params).In base → base.Ns mainGlobals mg → FnOk l.prog w (K w.params) mg base (L2.CX l.prog w) k fa fd ["script"] (spLaw (K w.params))) :
    PySem.W.WalkO q loose XP YP l.row.toRowW d [] (fun f vs => PySem.call f vs) :=
  L2.walk_ofB (n := 63) (k := k) (x := "script") (CX := fun w => L2.CX l.prog w) (sp := fun w => spLaw (K w.params)) hn (by decide) hdf hr hY F
    (fun _ _ a ns hl hb _ hS => ⟨a, ns, rfl, hS, hl, hb, fun _ => rfl⟩) fun _ _ _ _ _ z => by obtain ⟨_, _, _, _, _, _, _, _, _, _, _, _, z⟩ := z; exact z
end
/-- a dict of the module by its items -/
theorem kdOk_list {w : World} {G : Gam} {p : Addr} : ∀ {l : List (Str × D)}, (∀ e ∈ l, ∃ v, KDct G.K w p e.1 v ∧ ∀ F, Rep G F e.2 v) → KdOk G w p (fun z => l.lookup z)
  | [], _ => fun z d h => by cases h
  | e :: l, h => fun z d q => by
    have q : (match z == e.1 with | true => some e.2 | false => l.lookup z) = some d := q
    cases c : z == e.1 with
    | true =>
      rw [c] at q
      cases q
      rw [eq_of_beq c]
      exact h e List.mem_cons_self
    | false =>
      rw [c] at q
      exact kdOk_list (fun e he => h e (List.mem_cons_of_mem _ he)) z d q
theorem kdct_int {w : World} {K : PySem.W.Frag} {p : Addr} {es : Array DictEntry} {n : Nat} {x : Str} {i : Int} {t : Tok} (k : KDict K w p es n) (h : PySem.W.nsIn K p x = some (some (.int i t))) : KDct K w p x (.int i) := ⟨es, n, _, k.at_, k.lit, h, t, rfl⟩
/-- classes by number -/
def clsAt (l : List (Nat × Addr)) (n : Nat) : Addr := (l.lookup n).getD 0
end DL
end
noncomputable section
set_option maxRecDepth 100000
set_option maxHeartbeats 400000
/-! ## DL14: reading the data functions -/
namespace DL
open PySem PySem.Spec PyProof.Rows L2

def O.wp (o : O) (Q : D → Prop) : Prop := match o with
  | .ok d => Q d
  | _ => False
def R.wp {α : Type} (r : R α) (Q : α → Prop) (X : Nat → D → Rho → Prop) : Prop := match r with
  | .ok a => Q a
  | .exc c w ρ => X c w ρ
  | .bad => False
structure Ks where
  n : Rho → Prop
  t : Nat → D → Rho → Prop
  x : Nat → D → Rho → Prop
  b : Rho → Prop
  c : Rho → Prop
def S.wp (s : S) (K : Ks) : Prop := match s with
  | .nx ρ => K.n ρ
  | .rt k d ρ => K.t k d ρ
  | .bk ρ => K.b ρ
  | .ct ρ => K.c ρ
  | .exc c w ρ => K.x c w ρ
  | .bad => False
/-- a function's result, with what it may raise -/
def O.wpX (o : O) (Q : D → Prop) (X : Nat → D → Prop) : Prop := match o with
  | .ok d => Q d
  | .exc c w => X c w
  | .bad => False
def O1.wpX (o : O1) (Q : D → D → Prop) (X : Nat → D → Prop) : Prop := match o with
  | .ok d e => Q d e
  | .exc c w => X c w
  | .bad => False

/-! ### mono -/
theorem O.wp.mono {o : O} {Q Q' : D → Prop} (h : o.wp Q) (k : ∀ d, Q d → Q' d) : o.wp Q' := by
  cases o with
  | ok d => exact k d h
  | _ => exact h
theorem R.wp.mono {α : Type} {r : R α} {Q Q' : α → Prop} {X X' : Nat → D → Rho → Prop} (h : r.wp Q X) (k : ∀ a, Q a → Q' a) (kx : ∀ c w ρ, X c w ρ → X' c w ρ) : r.wp Q' X' := by
  cases r with
  | ok a => exact k a h
  | exc c w ρ => exact kx c w ρ h
  | bad => exact h
theorem S.wp.mono {s : S} {K K' : Ks} (h : s.wp K) (kn : ∀ ρ, K.n ρ → K'.n ρ) (kt : ∀ k d ρ, K.t k d ρ → K'.t k d ρ) (kx : ∀ c w ρ, K.x c w ρ → K'.x c w ρ) (kb : ∀ ρ, K.b ρ → K'.b ρ) (kc : ∀ ρ, K.c ρ → K'.c ρ) : s.wp K' := by
  cases s with
  | nx ρ => exact kn ρ h
  | rt k d ρ => exact kt k d ρ h
  | bk ρ => exact kb ρ h
  | ct ρ => exact kc ρ h
  | exc c w ρ => exact kx c w ρ h
  | bad => exact h
theorem O.wpX.mono {o : O} {Q Q' : D → Prop} {X X' : Nat → D → Prop} (h : o.wpX Q X) (k : ∀ d, Q d → Q' d) (kx : ∀ c w, X c w → X' c w) : o.wpX Q' X' := by
  cases o with
  | ok d => exact k d h
  | exc c w => exact kx c w h
  | bad => exact h
theorem O1.wpX.mono {o : O1} {Q Q' : D → D → Prop} {X X' : Nat → D → Prop} (h : o.wpX Q X) (k : ∀ d e, Q d e → Q' d e) (kx : ∀ c w, X c w → X' c w) : o.wpX Q' X' := by
  cases o with
  | ok d e => exact k d e h
  | exc c w => exact kx c w h
  | bad => exact h
/-- no exception -/
def noX : Nat → D → Prop := fun _ _ => False
theorem O.eq_of {o : O} {d : D} (h : o.wpX (fun e => e = d) noX) : o = .ok d := by
  cases o with
  | ok e => have h : e = d := h; rw [h]
  | exc c w => exact h.elim
  | bad => exact h.elim
theorem O.of_eq {o : O} {d : D} {Q : D → Prop} {X : Nat → D → Prop} (h : o = .ok d) (q : Q d) : o.wpX Q X := by rw [h]; exact q

/-! ### readings of slots -/
def froAt (o : Option Sl) (P : D → Prop) : Prop := match o with
  | some (.fro d) => P d
  | _ => False
def lstAt (o : Option Sl) (P : Bool → List D → Prop) : Prop := match o with
  | some (.own io 1 (.lst xs)) => P io xs
  | _ => False
def insAt (o : Option Sl) (P : Bool → Nat → List D → Prop) : Prop := match o with
  | some (.own io 1 (.ins c fs)) => P io c fs
  | _ => False
def ownAt (o : Option Sl) (P : Bool → Nat → D → Prop) : Prop := match o with
  | some (.own io k d) => P io k d
  | _ => False
/-- may be stored to -/
def stoAt (o : Option Sl) (P : Prop) : Prop := match o with
  | some (.own true _ _) => False
  | some _ => P
  | none => False
def movAt (o : Option Sl) (P : Nat → D → Prop) : Prop := match o with
  | some (.own false k d) => P k d
  | _ => False
def intAt (d : D) (P : Int → Prop) : Prop := match d with
  | .int i => P i
  | _ => False
def blAt (d : D) (P : Bool → Prop) : Prop := match d with
  | .bl i => P i
  | _ => False
def ldAt (d : D) (P : List D → Prop) : Prop := match d with
  | .lst xs => P xs
  | _ => False
theorem ite_and {c : Prop} [Decidable c] {P : Prop} : (if c then P else False) = (c ∧ P) := by
  by_cases h : c
  · rw [if_pos h]; simp [h]
  · rw [if_neg h]; simp [h]
section
variable {α : Type} {X : Nat → D → Rho → Prop} {ρ : Rho}

theorem wpR_ok {a : α} {Q : α → Prop} : (R.ok a).wp Q X = Q a := rfl
theorem wpR_bad {Q : α → Prop} : (R.bad : R α).wp Q X = False := rfl
theorem wpR_exc {c : Nat} {w : D} {Q : α → Prop} : (R.exc c w ρ : R α).wp Q X = X c w ρ := rfl
theorem wpR_bind {β : Type} {r : R α} {k : α → R β} {Q : β → Prop} : (r.bind k).wp Q X = r.wp (fun a => (k a).wp Q X) X := by cases r <;> rfl
theorem wpR_ite {c : Prop} [Decidable c] {a b : R α} {Q : α → Prop} : (if c then a else b).wp Q X = if c then a.wp Q X else b.wp Q X := by by_cases h : c <;> simp [h]
theorem wpO_ok {d : D} {Q : D → Prop} : (O.ok d).wp Q = Q d := rfl
theorem wpO_bad {Q : D → Prop} : O.bad.wp Q = False := rfl
theorem wpO_ite {c : Prop} [Decidable c] {a b : O} {Q : D → Prop} : (if c then a else b).wp Q = if c then a.wp Q else b.wp Q := by by_cases h : c <;> simp [h]
theorem wpO_toR {o : O} {Q : D × Rho → Prop} : (O.toR o.noExc ρ).wp Q X = o.wp fun d => Q (d, ρ) := by cases o <;> rfl
theorem wpX_ok {d : D} {Q : D → Prop} {Z : Nat → D → Prop} : (O.ok d).wpX Q Z = Q d := rfl
theorem wpX_exc {c : Nat} {d : D} {Q : D → Prop} {Z : Nat → D → Prop} : (O.exc c d).wpX Q Z = Z c d := rfl
theorem wpX_bad {Q : D → Prop} {Z : Nat → D → Prop} : O.bad.wpX Q Z = False := rfl
theorem wpO_toR' {o : O} {Q : D × Rho → Prop} : (O.toR o ρ).wp Q X = o.wpX (fun d => Q (d, ρ)) (fun c w => X c w ρ) := by cases o <;> rfl
theorem wpO_toRO {r : Nat} {o : O} {Q : Nat × D × Rho → Prop} : (O.toRO r o ρ).wp Q X = o.wpX (fun d => Q (r, d, ρ)) (fun c w => X c w ρ) := by cases o <;> rfl
theorem wpX_ofD {o : Option D} {Q : D → Prop} {Z : Nat → D → Prop} : (O.ofD o).wpX Q Z = (match o with | some d => Q d | none => False) := by cases o <;> rfl
theorem wpO_ofD {o : Option D} {Q : D → Prop} : (O.ofD o).wp Q = (match o with | some d => Q d | none => False) := by cases o <;> rfl
theorem wpX_ite {c : Prop} [Decidable c] {a b : O} {Q : D → Prop} {Z : Nat → D → Prop} : (if c then a else b).wpX Q Z = if c then a.wpX Q Z else b.wpX Q Z := by by_cases h : c <;> simp [h]

/-! statements -/
variable {K : Ks}
theorem wpS_thn {r : R α} {k : α → S} : (r.thn k).wp K = r.wp (fun a => (k a).wp K) K.x := by cases r <;> rfl
theorem wpS_seq {f g : Rho → S} : (sSeq f g ρ).wp K = (f ρ).wp { K with n := fun ρ1 => (g ρ1).wp K } := by
  unfold sSeq
  cases f ρ <;> rfl
theorem wpS_next : (sNext ρ).wp K = K.n ρ := rfl
theorem wpS_brk : (sBrk ρ).wp K = K.b ρ := rfl
theorem wpS_cnt : (sCnt ρ).wp K = K.c ρ := rfl
theorem wpS_bad : (sBad ρ).wp K = False := rfl
theorem wpS_drop {f : Rho → R (D × Rho)} : (sDrop f ρ).wp K = (f ρ).wp (fun p => K.n p.2) K.x := wpS_thn
theorem wpS_ret {f : Rho → R (D × Rho)} : (sRet f ρ).wp K = (f ρ).wp (fun p => K.t 0 p.1 p.2) K.x := wpS_thn
theorem wpS_retO {f : Rho → R (Nat × D × Rho)} : (sRetO f ρ).wp K = (f ρ).wp (fun p => K.t p.1 p.2.1 p.2.2) K.x := wpS_thn
theorem wpS_ite {c : Prop} [Decidable c] {a b : S} : (if c then a else b).wp K = if c then a.wp K else b.wp K := by by_cases h : c <;> simp [h]
theorem wpS_if {c : Rho → R (Bool × Rho)} {a b : Rho → S} : (sIf c a b ρ).wp K = (c ρ).wp (fun p => if p.1 = true then (a p.2).wp K else (b p.2).wp K) K.x := by
  unfold sIf
  rw [wpS_thn]
  simp only [wpS_ite]
theorem wpS_put {j : Nat} {d : D} : (S.ofO (putFro j d ρ)).wp K = stoAt ρ[j]? (K.n (ρ.set j (.fro d))) := by
  unfold putFro
  cases ρ[j]? with
  | none => rfl
  | some x => cases x with
    | own io k e => cases io <;> rfl
    | _ => rfl
theorem wpS_asg {j : Nat} {f : Rho → R (D × Rho)} : (sAsg j f ρ).wp K = (f ρ).wp (fun p => stoAt p.2[j]? (K.n (p.2.set j (.fro p.1)))) K.x := by
  unfold sAsg
  rw [wpS_thn]
  simp only [wpS_put]
theorem wpS_asgO {j : Nat} {f : Rho → R (Nat × D × Rho)} : (sAsgO j f ρ).wp K = (f ρ).wp (fun p => stoAt p.2.2[j]? (K.n (p.2.2.set j (.own false p.1 p.2.1)))) K.x := by
  unfold sAsgO
  rw [wpS_thn]
  have e : ∀ p : Nat × D × Rho, (S.ofO (putOwn j p.1 p.2.1 p.2.2)).wp K = stoAt p.2.2[j]? (K.n (p.2.2.set j (.own false p.1 p.2.1))) := fun p => by
    unfold putOwn
    cases p.2.2[j]? with
    | none => rfl
    | some x => cases x with
      | own io k e => cases io <;> rfl
      | _ => rfl
  simp only [e]
theorem wpS_frz' {j : Nat} {f : Rho → S} : (sFrz j f ρ).wp K = (match frz j ρ with | some ρ' => (f ρ').wp K | none => False) := by
  unfold sFrz
  cases frz j ρ <;> rfl
theorem wpS_par {i j : Nat} {f g : Rho → R (D × Rho)} : (sPar i j f g ρ).wp K = (f ρ).wp (fun p => (g p.2).wp (fun q => match (putFro i p.1 q.2).bind (putFro j q.1) with | some ρ' => K.n ρ' | none => False) K.x) K.x := by
  unfold sPar
  rw [wpS_thn]
  congr 1
  funext p
  rw [wpS_thn]
  congr 1
  funext q
  cases (putFro i p.1 q.2).bind (putFro j q.1) <;> rfl
theorem wpS_ofO {o : Option Rho} : (S.ofO o).wp K = (match o with | some ρ' => K.n ρ' | none => False) := by cases o <;> rfl
theorem wpS_nx : (S.nx ρ).wp K = K.n ρ := rfl
theorem wpS_rt {k : Nat} {d : D} : (S.rt k d ρ).wp K = K.t k d ρ := rfl
theorem wpS_sbad : S.bad.wp K = False := rfl
/-! functions -/
def ioIs (k : Nat) (ρ : Rho) (P : D → Prop) : Prop := match ρ[(0 : Nat)]? with
  | some (.own true k' e) => if k' = k then P e else False
  | _ => False
theorem wp_ioAt {k : Nat} {d : D} {Q : D → D → Prop} {Z : Nat → D → Prop} : (ioAt k d ρ).wpX Q Z = ioIs k ρ (fun e => Q d e) := by
  unfold ioAt ioIs
  cases ρ[(0 : Nat)]? with
  | none => rfl
  | some x => cases x with
    | own io k' e =>
      cases io with
      | false => rfl
      | true =>
        show O1.wpX (if k' = k then .ok d e else .bad) Q Z = if k' = k then Q d e else False
        by_cases c : k' = k
        · rw [if_pos c, if_pos c]; rfl
        · rw [if_neg c, if_neg c]; rfl
    | _ => rfl
end
theorem wp_fn0 {n : Nat} {f : Rho → S} {ds : List D} {Q : D → Prop} {Z : Nat → D → Prop} : (fn0 n 0 f ds).wpX Q Z = (f (initR n ds)).wp ⟨fun _ => Q .non, fun _ d _ => Q d, fun c w _ => Z c w, fun _ => False, fun _ => False⟩ := by
  unfold fn0
  cases f (initR n ds) with
  | rt k d ρ => show O.wpX (if k = 0 ∨ 0 = 0 then .ok d else .bad) Q Z = Q d; rw [if_pos (.inr rfl)]; rfl
  | nx ρ => show O.wpX (if 0 = 0 then .ok .non else .bad) Q Z = Q .non; rw [if_pos rfl]; rfl
  | _ => rfl
theorem wp_fn0r {n r : Nat} {f : Rho → S} {ds : List D} {Q : D → Prop} {Z : Nat → D → Prop} (hr : r ≠ 0) : (fn0 n r f ds).wpX Q Z = (f (initR n ds)).wp ⟨fun _ => False, fun k d _ => k = r ∧ Q d, fun c w _ => Z c w, fun _ => False, fun _ => False⟩ := by
  unfold fn0
  cases f (initR n ds) with
  | rt k d ρ =>
    show O.wpX (if k = r ∨ r = 0 then .ok d else .bad) Q Z = (k = r ∧ Q d)
    by_cases c : k = r
    · rw [if_pos (.inl c)]; show Q d = _; simp [c]
    · rw [if_neg (by simp [c, hr])]; show False = _; simp [c]
  | nx ρ => show O.wpX (if r = 0 then .ok .non else .bad) Q Z = False; rw [if_neg hr]; rfl
  | _ => rfl
theorem wp_fn1 {n : Nat} {f : Rho → S} {d : D} {ds : List D} {Q : D → D → Prop} {Z : Nat → D → Prop} : (fn1 n 0 1 f d ds).wpX Q Z = (f (initR1 n 1 d ds)).wp ⟨fun ρ => ioIs 1 ρ (fun e => Q .non e), fun _ d ρ => ioIs 1 ρ (fun e => Q d e), fun c w _ => Z c w, fun _ => False, fun _ => False⟩ := by
  unfold fn1
  cases f (initR1 n 1 d ds) with
  | rt k d ρ => show O1.wpX (if k = 0 ∨ 0 = 0 then ioAt 1 d ρ else .bad) Q Z = _; rw [if_pos (.inr rfl), wp_ioAt]; rfl
  | nx ρ => show O1.wpX (if 0 = 0 then ioAt 1 .non ρ else .bad) Q Z = _; rw [if_pos rfl, wp_ioAt]; rfl
  | _ => rfl
theorem wp_call1 {j r : Nat} {Fn : D → List D → O1} {ds : List D} {ρ : Rho} {Q : Nat × D × Rho → Prop} {X : Nat → D → Rho → Prop} {io : Bool} {d : D} (h : ρ[j]? = some (.own io 1 d)) :
    (DL.call1 r 1 j Fn ds ρ).wp Q X = (Fn d ds).wpX (fun x e => Q (r, x, ρ.set j (.own io 1 e))) (fun c w => X c w (ρ.set j .no)) := by
  unfold DL.call1
  rw [h]
  dsimp only
  rw [if_pos rfl]
  cases Fn d ds <;> rfl
theorem wp_toRO1 {r j k : Nat} {io : Bool} {o : O1} {ρ : Rho} {Q : Nat × D × Rho → Prop} {X : Nat → D → Rho → Prop} : (O1.toRO r j io k o ρ).wp Q X = o.wpX (fun x e => Q (r, x, ρ.set j (.own io k e))) (fun c w => X c w (ρ.set j .no)) := by cases o <;> rfl
/-! loops -/
theorem wp_for {g : D → Rho → Option Rho} {b : Rho → S} {K : Ks} (I : Nat → Rho → Prop) : ∀ (xs : List D) (i0 : Nat) (ρ : Rho), I i0 ρ →
    (∀ i x ρ, xs[i]? = some x → I (i0 + i) ρ → ∃ ρ1, g x ρ = some ρ1 ∧ (b ρ1).wp { K with n := I (i0 + i + 1), c := I (i0 + i + 1), b := K.n }) → (∀ ρ, I (i0 + xs.length) ρ → K.n ρ) → (forD g b xs ρ).wp K
  | [], i0, ρ, h0, hs, hn => hn ρ h0
  | x :: xs, i0, ρ, h0, hs, hn => by
    obtain ⟨ρ1, e, w⟩ := hs 0 x ρ rfl h0
    unfold forD
    rw [e]
    dsimp only
    have go : ∀ ρ2, I (i0 + 1) ρ2 → (forD g b xs ρ2).wp K := fun ρ2 h2 => wp_for I xs (i0 + 1) ρ2 h2 (fun i y ρ hy hi => by
      have := hs (i + 1) y ρ (by simpa using hy) (by rw [show i0 + (i + 1) = i0 + 1 + i by omega]; exact hi)
      rw [show i0 + (i + 1) + 1 = i0 + 1 + i + 1 by omega] at this
      exact this) fun ρ h => hn ρ (by rw [List.length_cons, show i0 + (xs.length + 1) = i0 + 1 + xs.length by omega]; exact h)
    cases q : b ρ1 with
    | nx ρ2 => rw [q] at w; exact go ρ2 w
    | ct ρ2 => rw [q] at w; exact go ρ2 w
    | bk ρ2 => rw [q] at w; exact w
    | rt k d ρ2 => rw [q] at w; exact w
    | exc c d ρ2 => rw [q] at w; exact w
    | bad => rw [q] at w; exact w
theorem wp_while {c : Rho → R (Bool × Rho)} {b : Rho → S} {K : Ks} (I : Nat → Rho → Prop) (hs : ∀ n ρ, I n ρ → ∃ m, n = m + 1 ∧ (c ρ).wp (fun p => if p.1 = true then (b p.2).wp { K with n := I m, c := I m, b := K.n } else K.n p.2) K.x) : ∀ (n : Nat) (ρ : Rho), I n ρ → (whileD c b n ρ).wp K := by
  intro n
  induction n with
  | zero => intro ρ h; obtain ⟨m, e, _⟩ := hs 0 ρ h; cases e
  | succ n ih =>
    intro ρ h
    obtain ⟨m, e, w⟩ := hs _ ρ h
    cases e
    unfold whileD
    rw [wpS_thn]
    refine w.mono (fun p hp => ?_) fun _ _ _ h => h
    rw [wpS_ite]
    by_cases q : p.1 = true
    · rw [if_pos q] at hp ⊢
      cases z : b p.2 with
      | nx ρ2 => rw [z] at hp; exact ih ρ2 hp
      | ct ρ2 => rw [z] at hp; exact ih ρ2 hp
      | bk ρ2 => rw [z] at hp; exact hp
      | rt k d ρ2 => rw [z] at hp; exact hp
      | exc c d ρ2 => rw [z] at hp; exact hp
      | bad => rw [z] at hp; exact hp
    · rw [if_neg q] at hp ⊢; exact hp
theorem wp_comp {fg : D → Rho → Option Rho} {ft : Rho → R (Bool × Rho)} {fe : Rho → R (D × Rho)} {vs : List Nat} {X : Nat → D → Rho → Prop} {Q : List D × Rho → Prop} (I : Nat → List D → Rho → Prop) : ∀ (xs : List D) (i0 : Nat) (acc : List D) (ρ : Rho), I i0 acc ρ →
    (∀ i x acc ρ, xs[i]? = some x → I (i0 + i) acc ρ → ∃ ρ1, fg x ρ = some ρ1 ∧ (ft ρ1).wp (fun p => if p.1 = true then (fe p.2).wp (fun q => I (i0 + i + 1) (acc ++ [q.1]) (wipeR q.2 vs)) X else I (i0 + i + 1) acc (wipeR p.2 vs)) X) →
    (∀ acc ρ, I (i0 + xs.length) acc ρ → Q (acc, ρ)) → (compD fg ft fe vs xs acc ρ).wp Q X
  | [], i0, acc, ρ, h0, hs, hn => hn acc ρ h0
  | x :: xs, i0, acc, ρ, h0, hs, hn => by
    obtain ⟨ρ1, e, w⟩ := hs 0 x acc ρ rfl h0
    have go : ∀ acc2 ρ2, I (i0 + 1) acc2 ρ2 → (compD fg ft fe vs xs acc2 ρ2).wp Q X := fun acc2 ρ2 h2 => wp_comp I xs (i0 + 1) acc2 ρ2 h2 (fun i y a ρ hy hi => by
      have := hs (i + 1) y a ρ (by simpa using hy) (by rw [show i0 + (i + 1) = i0 + 1 + i by omega]; exact hi)
      rw [show i0 + (i + 1) + 1 = i0 + 1 + i + 1 by omega] at this
      exact this) fun a ρ h => hn a ρ (by rw [List.length_cons, show i0 + (xs.length + 1) = i0 + 1 + xs.length by omega]; exact h)
    unfold compD
    rw [e]
    dsimp only
    rw [wpR_bind]
    refine w.mono (fun p hp => ?_) fun _ _ _ h => h
    rw [wpR_ite]
    by_cases q : p.1 = true
    · rw [if_pos q] at hp ⊢
      rw [wpR_bind]
      exact hp.mono (fun z hz => go _ _ hz) fun _ _ _ h => h
    · rw [if_neg q] at hp ⊢
      exact go _ _ hp
theorem wpR_noExc {α : Type} {r : R α} {Q : α → Prop} {X : Nat → D → Rho → Prop} : r.noExc.wp Q X = r.wp Q (fun _ _ _ => False) := by cases r <;> rfl
end DL
end
noncomputable section
set_option maxRecDepth 100000
set_option maxHeartbeats 400000
/-! ## DL15: small readings -/
namespace DL
open PySem PySem.Spec PyProof.Rows L2
section
variable {α : Type} {x y z u : α} {xs : List α}
theorem ixNL_0 : ixN (x :: xs).length 0 = some 0 := by unfold ixN; rw [if_pos (by decide), if_pos (by rw [List.length_cons]; omega)]; rfl
theorem ixNL_1 : ixN (x :: y :: xs).length 1 = some 1 := by unfold ixN; rw [if_pos (by decide), if_pos (by rw [List.length_cons, List.length_cons]; omega)]; rfl
theorem ixNL_2 : ixN (x :: y :: z :: xs).length 2 = some 2 := by unfold ixN; rw [if_pos (by decide), if_pos (by rw [List.length_cons, List.length_cons, List.length_cons]; omega)]; rfl
theorem ixNL_3 : ixN (x :: y :: z :: u :: xs).length 3 = some 3 := by unfold ixN; rw [if_pos (by decide), if_pos (by rw [List.length_cons, List.length_cons, List.length_cons, List.length_cons]; omega)]; rfl
theorem atI_0 : L2.atI (x :: xs) 0 = some x := by unfold L2.atI; rw [ixNL_0]; rfl
theorem atI_1 : L2.atI (x :: y :: xs) 1 = some y := by unfold L2.atI; rw [ixNL_1]; rfl
theorem atI_2 : L2.atI (x :: y :: z :: xs) 2 = some z := by unfold L2.atI; rw [ixNL_2]; rfl
theorem atI_3 : L2.atI (x :: y :: z :: u :: xs) 3 = some u := by unfold L2.atI; rw [ixNL_3]; rfl
theorem atI_m1 : L2.atI [x, y] (-1) = some y := rfl
theorem ixN_of {n i : Nat} (h : i < n) : ixN n (i : Int) = some i := by unfold ixN; rw [if_pos (by omega), if_pos (by omega)]; simp
theorem ixN_of' {n : Nat} {i : Int} (h0 : 0 ≤ i) (h : i < n) : ixN n i = some i.toNat := by unfold ixN; rw [if_pos h0, if_pos h]
theorem atI_of {i : Nat} (h : i < xs.length) : L2.atI xs (i : Int) = some xs[i] := by unfold L2.atI; rw [ixN_of h]; exact List.getElem?_eq_getElem h
theorem atI_of' {i : Int} (h0 : 0 ≤ i) (h : i < xs.length) : L2.atI xs i = some (xs[i.toNat]'(by omega)) := by unfold L2.atI; rw [ixN_of' h0 h]; exact List.getElem?_eq_getElem (by omega)
theorem get_0 : (x :: xs)[(0 : Nat)]? = some x := rfl
theorem get_1 : (x :: y :: xs)[(1 : Nat)]? = some y := rfl
theorem get_2 : (x :: y :: z :: xs)[(2 : Nat)]? = some z := rfl
theorem get_3 : (x :: y :: z :: u :: xs)[(3 : Nat)]? = some u := rfl
theorem get_4 {v : α} : (x :: y :: z :: u :: v :: xs)[(4 : Nat)]? = some v := rfl
theorem get_5 {v w : α} : (x :: y :: z :: u :: v :: w :: xs)[(5 : Nat)]? = some w := rfl
theorem get_6 {v w s : α} : (x :: y :: z :: u :: v :: w :: s :: xs)[(6 : Nat)]? = some s := rfl
theorem get_7 {v w s t : α} : (x :: y :: z :: u :: v :: w :: s :: t :: xs)[(7 : Nat)]? = some t := rfl
theorem get_8 {v w s t a : α} : (x :: y :: z :: u :: v :: w :: s :: t :: a :: xs)[(8 : Nat)]? = some a := rfl
theorem get_9 {v w s t a b : α} : (x :: y :: z :: u :: v :: w :: s :: t :: a :: b :: xs)[(9 : Nat)]? = some b := rfl
theorem set_0 {q : α} : (x :: xs).set 0 q = q :: xs := rfl
theorem set_1 {q : α} : (x :: y :: xs).set 1 q = x :: q :: xs := rfl
theorem set_2 {q : α} : (x :: y :: z :: xs).set 2 q = x :: y :: q :: xs := rfl
theorem set_3 {q : α} : (x :: y :: z :: u :: xs).set 3 q = x :: y :: z :: q :: xs := rfl
theorem set_4 {v q : α} : (x :: y :: z :: u :: v :: xs).set 4 q = x :: y :: z :: u :: q :: xs := rfl
theorem set_5 {v w q : α} : (x :: y :: z :: u :: v :: w :: xs).set 5 q = x :: y :: z :: u :: v :: q :: xs := rfl
theorem set_6 {v w s q : α} : (x :: y :: z :: u :: v :: w :: s :: xs).set 6 q = x :: y :: z :: u :: v :: w :: q :: xs := rfl
theorem set_7 {v w s t q : α} : (x :: y :: z :: u :: v :: w :: s :: t :: xs).set 7 q = x :: y :: z :: u :: v :: w :: s :: q :: xs := rfl
theorem set_8 {v w s t a q : α} : (x :: y :: z :: u :: v :: w :: s :: t :: a :: xs).set 8 q = x :: y :: z :: u :: v :: w :: s :: t :: q :: xs := rfl
theorem set_9 {v w s t a b q : α} : (x :: y :: z :: u :: v :: w :: s :: t :: a :: b :: xs).set 9 q = x :: y :: z :: u :: v :: w :: s :: t :: a :: q :: xs := rfl
end
theorem i_add {i j : Int} : oAdd (.int i) (.int j) = .ok (.int (i + j)) := rfl
theorem i_op0 {g : Int → Int → D} {i j : Int} : intOp0 g (.int i) (.int j) = .ok (g i j) := rfl
theorem i_op {C : Int → Int → Bool} {g : Int → Int → D} {i j : Int} : intOp C g (.int i) (.int j) = if C i j = true then .ok (g i j) else .bad := rfl
theorem i_eq {i j : Int} : oEq (.int i) (.int j) = .ok (.bl (i == j)) := rfl
theorem i_ne {i j : Int} : oNe (.int i) (.int j) = .ok (.bl (!(i == j))) := rfl
theorem s_eq {i j : Str} : oEq (.str i) (.str j) = .ok (.bl (i == j)) := rfl
theorem s_ne {i j : Str} : oNe (.str i) (.str j) = .ok (.bl (!(i == j))) := rfl
theorem s_add {i j : Str} : oAdd (.str i) (.str j) = if i.length + j.length ≤ most then .ok (.str (i ++ j)) else .bad := rfl
theorem l_ix {xs : List D} {i : Int} : oIx (.lst xs) (.int i) = .ofD (L2.atI xs i) := rfl
theorem t_ix {xs : List D} {i : Int} : oIx (.tup xs) (.int i) = .ofD (L2.atI xs i) := rfl
theorem l_add {xs ys : List D} : oAdd (.lst xs) (.lst ys) = if xs.length + ys.length ≤ most then .ok (.lst (xs ++ ys)) else .bad := rfl
theorem l_cat {xs ys : List D} : oCatD (.lst xs) (.lst ys) = if xs.length + ys.length ≤ most then .ok (.lst (xs ++ ys)) else .bad := rfl
theorem i_int {i : Int} : oInt [.int i] = .ok (.int i) := rfl
theorem b_int {b : Bool} : oInt [.bl b] = .ok (.int (if b then 1 else 0)) := rfl
theorem i_abs {i : Int} : oAbs [.int i] = .ok (.int (if i < 0 then -i else i)) := rfl
theorem l_len {xs : List D} : oLen [.lst xs] = .ok (.int (xs.length : Int)) := rfl
theorem t_len {xs : List D} : oLen [.tup xs] = .ok (.int (xs.length : Int)) := rfl
theorem r_len {xs : List Int} : oLen [.scr xs] = .ok (.int (xs.length : Int)) := rfl
theorem s_len {z : Str} : oLen [.str z] = if z.length ≤ most then .ok (.int (z.length : Int)) else .bad := rfl
theorem i_str {i : Int} : oStrI [.int i] = if i.natAbs.log2 < 1920 then .ok (.str (toString i)) else .bad := rfl
theorem i_max {i j : Int} : oMax2 [.int i, .int j] = .ok (.int (if j > i then j else i)) := rfl
theorem i_min {i j : Int} : oMin2 [.int i, .int j] = .ok (.int (if j < i then j else i)) := rfl
theorem ownL_of' {j : Nat} {ρ : Rho} {io : Bool} {xs : List D} (h : ρ[j]? = some (.own io 1 (.lst xs))) : ownL j ρ = some (io, xs) := by unfold ownL; rw [h]; rfl
theorem wpX_noExc {o : O} {Q : D → Prop} {Z : Nat → D → Prop} : o.noExc.wpX Q Z = o.wp Q := by cases o <;> rfl
/-- may be stored to -/
def stoOk : Option Sl → Bool
  | some (.own true _ _) => false
  | some _ => true
  | none => false
theorem sto_no : stoOk (some .no) = true := rfl
theorem sto_fro {d : D} : stoOk (some (.fro d)) = true := rfl
theorem sto_own {k : Nat} {d : D} : stoOk (some (.own false k d)) = true := rfl
theorem putFro_ok {j : Nat} {ρ : Rho} {d : D} (h : stoOk ρ[j]? = true) : putFro j d ρ = some (ρ.set j (.fro d)) := by
  unfold stoOk at h
  unfold putFro
  cases q : ρ[j]? with
  | none => rw [q] at h; cases h
  | some s => cases s with
    | own io k e => cases io with
      | true => rw [q] at h; cases h
      | false => rfl
    | _ => rfl
theorem putOwn_ok {j k : Nat} {ρ : Rho} {d : D} (h : stoOk ρ[j]? = true) : putOwn j k d ρ = some (ρ.set j (.own false k d)) := by
  unfold stoOk at h
  unfold putOwn
  cases q : ρ[j]? with
  | none => rw [q] at h; cases h
  | some s => cases s with
    | own io k e => cases io with
      | true => rw [q] at h; cases h
      | false => rfl
    | _ => rfl
theorem putFro_if {j : Nat} {ρ : List Sl} {d : D} : putFro j d ρ = if stoOk (ρ[j]?) = true then some (ρ.set j (.fro d)) else none := by
  by_cases h : stoOk (ρ[j]?) = true
  · rw [if_pos h]; exact putFro_ok h
  · rw [if_neg h]
    unfold stoOk at h
    unfold putFro
    cases q : ρ[j]? with
    | none => rfl
    | some s => cases s with
      | own io k e => cases io with
        | true => rfl
        | false => rw [q] at h; exact absurd rfl h
      | _ => rw [q] at h; exact absurd rfl h
theorem putOwn_if {j k : Nat} {ρ : List Sl} {d : D} : putOwn j k d ρ = if stoOk (ρ[j]?) = true then some (ρ.set j (.own false k d)) else none := by
  by_cases h : stoOk (ρ[j]?) = true
  · rw [if_pos h]; exact putOwn_ok h
  · rw [if_neg h]
    unfold stoOk at h
    unfold putOwn
    cases q : ρ[j]? with
    | none => rfl
    | some s => cases s with
      | own io k e => cases io with
        | true => rfl
        | false => rw [q] at h; exact absurd rfl h
      | _ => rw [q] at h; exact absurd rfl h
theorem wp_cut {f g : Rho → S} {ρ : Rho} {K : Ks} (M : Rho → Prop) (h : (f ρ).wp { K with n := M }) (k : ∀ ρ1, M ρ1 → (g ρ1).wp K) : (sSeq f g ρ).wp K := by
  rw [wpS_seq]
  exact h.mono k (fun _ _ _ h => h) (fun _ _ _ h => h) (fun _ h => h) (fun _ h => h)
theorem bits_lt {i : Int} {k : Nat} (h : i.natAbs < 2 ^ k) (hk : 0 < k) : bits i < k := by
  unfold bits
  by_cases z : i.natAbs = 0
  · rw [z]; simpa using hk
  · exact (Nat.log2_lt z).mpr h
theorem log2_lt {n k : Nat} (h : n < 2 ^ k) (hk : 0 < k) : n.log2 < k := by
  by_cases z : n = 0
  · rw [z]; simpa using hk
  · exact (Nat.log2_lt z).mpr h
theorem mulOk_of {i j : Int} {k m : Nat} (h : i.natAbs < 2 ^ k) (h2 : j.natAbs < 2 ^ m) (hk : 0 < k) (hm : 0 < m) (hs : k + m < 100000000) : mulOk i j = true := by
  unfold mulOk
  have := bits_lt h hk
  have := bits_lt h2 hm
  exact Eq.mpr cdec_eq (by omega)
theorem divOk_of {i j : Int} (h0 : j ≠ 0) (h : j.natAbs.log2 < 9000) : divOk i j = true := by
  exact Eq.mpr cdec_eq ⟨h0, h⟩
theorem divOk_lt {i j : Int} (k : Nat) (h0 : j ≠ 0) (h : j.natAbs < 2 ^ k) (hk : 0 < k := by decide) (hk2 : k ≤ 9000 := by decide) : divOk i j = true := divOk_of h0 (Nat.lt_of_lt_of_le (log2_lt h hk) hk2)
section
variable {a b c d e f : D}
theorem ln_0 : ((([] : List D).length : Nat) : Int) = 0 := rfl
theorem ln_1 : (([a].length : Nat) : Int) = 1 := rfl
theorem ln_2 : (([a, b].length : Nat) : Int) = 2 := rfl
theorem ln_3 : (([a, b, c].length : Nat) : Int) = 3 := rfl
theorem ln_4 : (([a, b, c, d].length : Nat) : Int) = 4 := rfl
theorem lm_0 : (([] : List D).length ≤ most) = True := eq_true (by unfold most; show 0 ≤ 10000000; decide)
theorem lm_1 : ([a].length ≤ most) = True := eq_true (by unfold most; show 1 ≤ 10000000; decide)
theorem lm_2 : ([a, b].length ≤ most) = True := eq_true (by unfold most; show 2 ≤ 10000000; decide)
theorem lm_3 : ([a, b, c].length ≤ most) = True := eq_true (by unfold most; show 3 ≤ 10000000; decide)
theorem lm_4 : ([a, b, c, d].length ≤ most) = True := eq_true (by unfold most; show 4 ≤ 10000000; decide)
theorem lm_5 : ([a, b, c, d, e].length ≤ most) = True := eq_true (by unfold most; show 5 ≤ 10000000; decide)
theorem lm_6 : ([a, b, c, d, e, f].length ≤ most) = True := eq_true (by unfold most; show 6 ≤ 10000000; decide)
end
section
variable {x y z u d : D} {xs : List D}
theorem sf_00 : setF [] 0 d = some [d] := rfl
theorem sf_11 : setF [x] 1 d = some [x, d] := rfl
theorem sf_22 : setF [x, y] 2 d = some [x, y, d] := rfl
theorem sf_33 : setF [x, y, z] 3 d = some [x, y, z, d] := rfl
theorem sf_0 : setF (x :: xs) 0 d = some (d :: xs) := by unfold setF; rw [if_pos (by rw [List.length_cons]; omega)]; rfl
theorem sf_1 : setF (x :: y :: xs) 1 d = some (x :: d :: xs) := by unfold setF; rw [if_pos (by rw [List.length_cons, List.length_cons]; omega)]; rfl
theorem sf_2 : setF (x :: y :: z :: xs) 2 d = some (x :: y :: d :: xs) := by unfold setF; rw [if_pos (by rw [List.length_cons, List.length_cons, List.length_cons]; omega)]; rfl
theorem sf_3 : setF (x :: y :: z :: u :: xs) 3 d = some (x :: y :: z :: d :: xs) := by unfold setF; rw [if_pos (by rw [List.length_cons, List.length_cons, List.length_cons, List.length_cons]; omega)]; rfl
end
section
variable {α : Type} {l1 l2 : List α} {x y : α}
theorem split1 {ts : List α} {n : Nat} (h : n < ts.length) : ∃ l1 x l2, ts = l1 ++ x :: l2 ∧ l1.length = n :=
  ⟨ts.take n, ts[n], ts.drop (n + 1), by rw [List.getElem_cons_drop h, List.take_append_drop], by rw [List.length_take]; omega⟩
theorem split2 {ts : List α} {n : Nat} (h : n + 1 < ts.length) : ∃ l1 x y l2, ts = l1 ++ x :: y :: l2 ∧ l1.length = n := by
  obtain ⟨l1, x, l2, e, hl⟩ := split1 (Nat.lt_of_succ_lt h)
  cases l2 with
  | nil => rw [e, List.length_append] at h; simp at h; omega
  | cons y l2 => exact ⟨l1, x, y, l2, e, hl⟩
theorem ixN_mid {i : Int} (h : (l1.length : Int) = i) : ixN (l1 ++ x :: l2).length i = some l1.length := by rw [← h]; exact ixN_of (by rw [List.length_append, List.length_cons]; omega)
theorem atI_mid {i : Int} (h : (l1.length : Int) = i) : L2.atI (l1 ++ x :: l2) i = some x := by unfold L2.atI; rw [ixN_mid h]; show (l1 ++ x :: l2)[l1.length]? = some x; rw [List.getElem?_append_right (Nat.le_refl _), Nat.sub_self]; rfl
theorem atI_mid1 {i : Int} (h : (l1.length : Int) + 1 = i) : L2.atI (l1 ++ x :: y :: l2) i = some y := by
  rw [show l1 ++ x :: y :: l2 = (l1 ++ [x]) ++ y :: l2 by simp]
  exact atI_mid (by rw [List.length_append, List.length_singleton]; omega)
theorem set_mid : (l1 ++ x :: l2).set l1.length y = l1 ++ y :: l2 := by rw [List.set_append_right _ _ (Nat.le_refl _), Nat.sub_self]; rfl
end
theorem cut_pre {l1 l2 : List D} {i : Int} (h : (l1.length : Int) = i) : cutD (l1 ++ l2) none (some i) = l1 := by
  unfold cutD
  rw [← h, HT.sIx_none, HT.sIx_nat, List.length_append, Nat.min_eq_left (by omega), Nat.sub_zero, List.drop_zero, List.take_left']
  rfl
theorem cut_post {l1 l2 : List D} {i : Int} (h : (l1.length : Int) = i) : cutD (l1 ++ l2) (some i) none = l2 := by
  unfold cutD
  rw [← h, HT.sIx_none, HT.sIx_nat, List.length_append, Nat.min_eq_left (by omega), List.drop_left', List.take_of_length_le]
  · omega
  · rfl
theorem wp_make {c : Nat} {Fn : D → List D → O1} {dfl : List D} {fa : Rho → R (List D × Rho)} {ρ : Rho} {Q : Nat × D × Rho → Prop} {X : Nat → D → Rho → Prop} : (dMake c Fn dfl fa ρ).wp Q X = (fa ρ).wp (fun p => (Fn (.ins c []) (p.1 ++ dfl)).wpX (fun _ e => Q (1, e, p.2)) (fun k w => X k w p.2)) X := by
  unfold dMake
  rw [wpR_bind]
  congr 1
  funext p
  cases Fn (.ins c []) (p.1 ++ dfl) <;> rfl
theorem wp_for_nil {g : D → Rho → Option Rho} {b : Rho → S} {ρ : Rho} {K : Ks} : (forD g b [] ρ).wp K = K.n ρ := rfl
theorem wp_for_cons {g : D → Rho → Option Rho} {b : Rho → S} {x : D} {xs : List D} {ρ : Rho} {K : Ks} : (forD g b (x :: xs) ρ).wp K = (match g x ρ with | some ρ1 => (b ρ1).wp { K with n := fun ρ2 => (forD g b xs ρ2).wp K, c := fun ρ2 => (forD g b xs ρ2).wp K, b := K.n } | none => False) := by
  conv => lhs; unfold forD
  cases g x ρ with
  | none => rfl
  | some ρ1 => cases h : b ρ1 <;> simp only [h] <;> rfl
theorem pop_at {α : Type} {l : List α} {x : α} : (l ++ [x])[(l ++ [x]).length - 1]? = some x := by rw [List.length_append, List.length_singleton, Nat.add_sub_cancel, List.getElem?_append_right (Nat.le_refl _), Nat.sub_self]; rfl
theorem pop_left {α : Type} {l : List α} {x : α} : (l ++ [x]).dropLast = l := List.dropLast_concat
theorem isT_tup {xs : List D} : oIsT "tuple" (.tup xs) = .ok (.bl true) := by show O.ok (.bl (isB "tuple" "tuple")) = _; rw [show isB "tuple" "tuple" = true by decide +kernel]
theorem isT_str {x : Str} : oIsT "str" (.str x) = .ok (.bl true) := by show O.ok (.bl (isB "str" "str")) = _; rw [show isB "str" "str" = true by decide +kernel]
theorem isT_int {x : Int} : oIsT "int" (.int x) = .ok (.bl true) := by show O.ok (.bl (isB "int" "int")) = _; rw [show isB "int" "int" = true by decide +kernel]
theorem isT_bool {x : Int} : oIsT "bool" (.int x) = .ok (.bl false) := by show O.ok (.bl (isB "int" "bool")) = _; rw [show isB "int" "bool" = false by decide +kernel]
theorem isT_lst {xs : List D} : oIsT "list" (.lst xs) = .ok (.bl true) := by show O.ok (.bl (isB "list" "list")) = _; rw [show isB "list" "list" = true by decide +kernel]
theorem isC_ok {c : Nat} {fs : List D} : oIsC c (.ins c fs) = .ok (.bl true) := if_pos rfl
theorem len_le {n : Nat} (h : n ≤ 10000000) : n ≤ most := h
end DL
end
noncomputable section
set_option maxRecDepth 100000
set_option maxHeartbeats 1000000
namespace WW
open PySem PySem.Spec PyProof.Rows L2 DL
/-! the data functions of law_k26_write_sum -/
def kd_LEVELS (z : Str) : Option D := ([("plus", .int 0), ("row", .int 1), ("star", .int 2), ("number", .int 3), ("letter", .int 3)] : List (Str × D)).lookup z
def bd_law_feed : Rho → S :=
  sRetO (dLsO opLst (aCons (dFr (dComp [1] (iLst (dSl (dVar 0) (pNone) (pSome (dC (.int 63))))) (putFro 1) (fun ρ => .ok (true, ρ)) (dLs oAbs (aCons (dVar 1) aNil)))) (aCons (dC (.int 0)) (aCons (dC (.int 0)) (aCons (dOp oAdd (dC (.int 7)) (dLs oLen (aCons (dVar 0) aNil))) (aNil))))))
def fn_law_feed : List D → O := fn0 2 1 bd_law_feed
def bd_law_draw : Rho → S :=
  sSeq (sAsg 2 (dOwnIx 0 (dC (.int 0))))
  (sSeq (sIf (dAnd (dB (dOp oEq (dOwnIx 0 (dC (.int 2))) (dC (.int 0)))) (dB (dOp oLt (dOwnIx 0 (dC (.int 1))) (dLs oLen (aCons (dVar 2) aNil))))) (sSeq (sAsg 3 (dOp oIx (dVar 2) (dOwnIx 0 (dC (.int 1)))))
  (sSeq (sOwnSet 0 (dOp oAdd (dOwnIx 0 (dC (.int 1))) (dC (.int 1))) (dC (.int 1)))
  (sIf (dB (dOp oGe (dVar 3) (dOp oPow (dC (.int 10)) (dC (.int 18))))) (sOwnSet 0 (dVar 3) (dC (.int 2))) (sOwnSet 0 (dOp oMod (dLs oInt (aCons (dOp oAdd (dOp oAdd (dOp oMulI (dOwnIx 0 (dC (.int 3))) (dC (.int 48271))) (dOp oMulI (dVar 3) (dC (.int 69621)))) (dC (.int 11))) aNil)) (dC (.int 2147483647))) (dC (.int 3)))))) (sNext))
  (sSeq (sIf (dB (dOp oGt (dOwnIx 0 (dC (.int 2))) (dC (.int 0)))) (sSeq (sAsg 4 (dOp oMod (dLs oInt (aCons (dOwnIx 0 (dC (.int 2))) aNil)) (dVar 1)))
  (sSeq (sOwnSet 0 (dOp oDiv (dOwnIx 0 (dC (.int 2))) (dVar 1)) (dC (.int 2)))
  (sRet (dVar 4)))) (sNext))
  (sSeq (sOwnSet 0 (dOp oMod (dLs oInt (aCons (dOp oAdd (dOp oMulI (dOwnIx 0 (dC (.int 3))) (dC (.int 16807))) (dC (.int 12345))) aNil)) (dC (.int 2147483629))) (dC (.int 3)))
  (sRet (dOp oMod (dLs oInt (aCons (dOp oAdd (dOp oDiv (dOp oMulI (dOwnIx 0 (dC (.int 3))) (dOwnIx 0 (dC (.int 3)))) (dC (.int 1024))) (dOp oDiv (dOwnIx 0 (dC (.int 3))) (dC (.int 65536)))) aNil)) (dVar 1))))))
def fn_law_draw : D → List D → O1 := fn1 5 0 1 bd_law_draw
def bd_law_pair : Rho → S :=
  sSeq (sAsg 2 (dLs oAbs (aCons (dVar 0) aNil)))
  (sSeq (sAsg 3 (dLs oAbs (aCons (dVar 1) aNil)))
  (sSeq (sWhile (mInt 3) (dB (dOp oGt (dVar 3) (dC (.int 0)))) (sPar 2 3 (dVar 3) (dOp oMod (dLs oInt (aCons (dVar 2) aNil)) (dVar 3))))
  (sSeq (sIf (dB (dOp oLt (dVar 1) (dC (.int 0)))) (sAsg 2 (dOp oSub (dC (.int 0)) (dVar 2))) (sNext))
  (sRet (dTup (aCons (dOp oDiv (dVar 0) (dVar 2)) (aCons (dOp oDiv (dVar 1) (dVar 2)) (aNil))))))))
def fn_law_pair : List D → O := fn0 4 0 bd_law_pair
def bd_law_great : Rho → S :=
  sSeq (sAsg 2 (dC (.int 0)))
  (sSeq (sFor (iRg (aCons (dVar 1) aNil)) (putFro 3) (sAsg 2 (dOp oAdd (dOp oMulI (dVar 2) (dC (.int 100000))) (dFr (dCall1 0 1 0 fn_law_draw (aCons (dC (.int 100000)) (aNil)))))))
  (sRet (dVar 2)))
def fn_law_great : D → List D → O1 := fn1 4 0 1 bd_law_great
def bd_law_leaf : Rho → S :=
  sSeq (sAsg 2 (dFr (dCall1 0 1 0 fn_law_draw (aCons (dC (.int 4)) (aNil)))))
  (sSeq (sIf (dB (dOp oLt (dVar 2) (dC (.int 2)))) (sRet (dTup (aCons (dC (.str "letter")) (aCons (dOp oIx (dC (.str "abcd")) (dFr (dCall1 0 1 0 fn_law_draw (aCons (dC (.int 4)) (aNil))))) (aNil))))) (sNext))
  (sSeq (sIf (dB (dOp oEq (dVar 2) (dC (.int 2)))) (sRet (dTup (aCons (dC (.str "number")) (aCons (dTup (aCons (dOp oSub (dFr (dCall1 0 1 0 fn_law_draw (aCons (dC (.int 13)) (aNil)))) (dC (.int 6))) (aCons (dC (.int 1)) (aNil)))) (aNil))))) (sNext))
  (sSeq (sIf (dB (dOp oGt (dVar 1) (dC (.int 0)))) (sSeq (sAsg 3 (dOp oMulI (dFr (dCall1 0 1 0 fn_law_great (aCons (dVar 1) (aNil)))) (dOp oSub (dC (.int 1)) (dOp oMulI (dC (.int 2)) (dFr (dCall1 0 1 0 fn_law_draw (aCons (dC (.int 2)) (aNil))))))))
  (sRet (dTup (aCons (dC (.str "number")) (aCons (dFr (dCall0 0 fn_law_pair (aCons (dVar 3) (aCons (dLs oMax2 (aCons (dC (.int 1)) (aCons (dFr (dCall1 0 1 0 fn_law_great (aCons (dVar 1) (aNil)))) aNil))) (aNil))))) (aNil)))))) (sNext))
  (sRet (dTup (aCons (dC (.str "number")) (aCons (dFr (dCall0 0 fn_law_pair (aCons (dOp oSub (dFr (dCall1 0 1 0 fn_law_draw (aCons (dC (.int 25)) (aNil)))) (dC (.int 12))) (aCons (dOp oAdd (dC (.int 1)) (dFr (dCall1 0 1 0 fn_law_draw (aCons (dC (.int 12)) (aNil))))) (aNil))))) (aNil))))))))
def fn_law_leaf : D → List D → O1 := fn1 4 0 1 bd_law_leaf
def bd_law_joined : Rho → S :=
  sRet (dTup (aCons (dOp oIx (dFr (dLsO opLst (aCons (dC (.str "plus")) (aCons (dC (.str "row")) (aNil))))) (dFr (dCall1 0 1 0 fn_law_draw (aCons (dC (.int 2)) (aNil))))) (aCons (dVar 1) (aCons (dVar 2) (aNil)))))
def fn_law_joined : D → List D → O1 := fn1 3 0 1 bd_law_joined
def bd_law_bush : Rho → S :=
  sSeq (sAsgO 2 (dComp [3] (iRg (aCons (dOp oAdd (dC (.int 1)) (dFr (dCall1 0 1 0 fn_law_draw (aCons (dC (.int 10)) (aNil))))) aNil)) (putFro 3) (fun ρ => .ok (true, ρ)) (dFr (dCall1 0 1 0 fn_law_leaf (aCons (dVar 1) (aNil))))))
  (sSeq (sFor (iRg (aCons (dC (.int 9)) aNil)) (putFro 4) (sSeq (sIf (dB (dOp oEq (dFr (dCall1 0 1 0 fn_law_draw (aCons (dC (.int 3)) (aNil)))) (dC (.int 0)))) (sSeq (sAsg 5 (dFr (dCall1 0 1 0 fn_law_draw (aCons (dOwnLen 2) (aNil)))))
  (sOwnSet 2 (dTup (aCons (dC (.str "star")) (aCons (dOwnIx 2 (dVar 5)) (aNil)))) (dVar 5))) (sNext))
  (sIf (dB (dOp oGt (dOwnLen 2) (dC (.int 1)))) (sSeq (sAsg 5 (dFr (dCall1 0 1 0 fn_law_draw (aCons (dOp oSub (dOwnLen 2) (dC (.int 1))) (aNil)))))
  (sAsgO 2 (dCatO (dOp oAdd (dOwnSl 2 (pNone) (pSome (dVar 5))) (dFr (dLsO opLst (aCons (dFr (dCall1 0 1 0 fn_law_joined (aCons (dOwnIx 2 (dVar 5)) (aCons (dOwnIx 2 (dOp oAdd (dVar 5) (dC (.int 1)))) (aNil))))) (aNil))))) (dOwnSl 2 (pSome (dOp oAdd (dVar 5) (dC (.int 2)))) (pNone))))) (sNext))))
  (sRet (dOwnIx 2 (dC (.int 0)))))
def fn_law_bush : D → List D → O1 := fn1 6 0 1 bd_law_bush
def bd_law_chain : Rho → S :=
  sSeq (sAsg 3 (dFr (dCall1 0 1 0 fn_law_leaf (aCons (dVar 1) (aNil)))))
  (sSeq (sFor (iRg (aCons (dVar 2) aNil)) (putFro 4) (sSeq (sAsg 5 (dFr (dCall1 0 1 0 fn_law_draw (aCons (dC (.int 3)) (aNil)))))
  (sIf (dB (dOp oEq (dVar 5) (dC (.int 0)))) (sAsg 3 (dTup (aCons (dC (.str "star")) (aCons (dVar 3) (aNil))))) (sIf (dB (dOp oEq (dVar 5) (dC (.int 1)))) (sAsg 3 (dFr (dCall1 0 1 0 fn_law_joined (aCons (dVar 3) (aCons (dFr (dCall1 0 1 0 fn_law_leaf (aCons (dVar 1) (aNil)))) (aNil)))))) (sAsg 3 (dFr (dCall1 0 1 0 fn_law_joined (aCons (dFr (dCall1 0 1 0 fn_law_leaf (aCons (dVar 1) (aNil)))) (aCons (dVar 3) (aNil))))))))))
  (sRet (dVar 3)))
def fn_law_chain : D → List D → O1 := fn1 6 0 1 bd_law_chain
def bd_law_wide_term : Rho → S :=
  sSeq (sAsg 2 (dFr (dComp [3] (iRg (aCons (dC (.int 30)) aNil)) (putFro 3) (fun ρ => .ok (true, ρ)) (dFr (dCall1 0 1 0 fn_law_leaf (aCons (dVar 1) (aNil)))))))
  (sSeq (sFor (iRg (aCons (dC (.int 5)) aNil)) (putFro 4) (sSeq (sAsg 5 (dFr (dComp [3] (iRg3 (aCons (dC (.int 0)) (aCons (dLs oLen (aCons (dVar 2) aNil)) (aCons (dC (.int 2)) aNil)))) (putFro 3) (fun ρ => .ok (true, ρ)) (dSl (dVar 2) (pSome (dVar 3)) (pSome (dOp oAdd (dVar 3) (dC (.int 2))))))))
  (sAsg 2 (dOp oAdd (dFr (dComp [6] (iLst (dVar 5)) (putFro 6) (dB (dOp oEq (dLs oLen (aCons (dVar 6) aNil)) (dC (.int 2)))) (dFr (dCall1 0 1 0 fn_law_joined (aCons (dOp oIx (dVar 6) (dC (.int 0))) (aCons (dOp oIx (dVar 6) (dUn oNeg (dC (.int 1)))) (aNil))))))) (dSl (dVar 2) (pSome (dOp oMulI (dOp oDiv (dLs oLen (aCons (dVar 2) aNil)) (dC (.int 2))) (dC (.int 2)))) (pNone))))))
  (sRet (dOp oIx (dVar 2) (dC (.int 0)))))
def fn_law_wide_term : D → List D → O1 := fn1 7 0 1 bd_law_wide_term
def bd_law_term : Rho → S :=
  sSeq (sAsg 1 (dOp oMulI (dC (.int 8)) (dLs oInt (aCons (dOp oEq (dFr (dCall1 0 1 0 fn_law_draw (aCons (dC (.int 4)) (aNil)))) (dC (.int 0))) aNil))))
  (sSeq (sAsg 2 (dFr (dCall1 0 1 0 fn_law_draw (aCons (dC (.int 8)) (aNil)))))
  (sSeq (sIf (dB (dOp oEq (dVar 2) (dC (.int 0)))) (sRet (dFr (dCall1 0 1 0 fn_law_chain (aCons (dVar 1) (aCons (dC (.int 19)) (aNil)))))) (sNext))
  (sSeq (sIf (dB (dOp oLt (dVar 2) (dC (.int 3)))) (sRet (dFr (dCall1 0 1 0 fn_law_chain (aCons (dVar 1) (aCons (dFr (dCall1 0 1 0 fn_law_draw (aCons (dC (.int 8)) (aNil)))) (aNil)))))) (sNext))
  (sSeq (sIf (dB (dOp oEq (dVar 2) (dC (.int 3)))) (sRet (dFr (dCall1 0 1 0 fn_law_wide_term (aCons (dVar 1) (aNil))))) (sNext))
  (sRet (dFr (dCall1 0 1 0 fn_law_bush (aCons (dVar 1) (aNil)))))))))
def fn_law_term : D → List D → O1 := fn1 3 0 1 bd_law_term
def bd_law_is_integer : Rho → S :=
  sRet (dAndV (dUn (oIsT "int") (dVar 0)) (dNotV (dUn (oIsT "bool") (dVar 0))))
def fn_law_is_integer : List D → O := fn0 1 0 bd_law_is_integer
def bd_law_same : Rho → S :=
  sSeq (sIf (dNot (dB (dUn (oIsC 0) (dVar 0)))) (sRet (dC (.bl false))) (sNext))
  (sSeq (sIf (dOr (dNot (dB (dFr (dCall0 0 fn_law_is_integer (aCons (dFld [0] "top" nmW (dVar 0)) (aNil)))))) (dNot (dB (dFr (dCall0 0 fn_law_is_integer (aCons (dFld [0] "bottom" nmW (dVar 0)) (aNil))))))) (sRet (dC (.bl false))) (sNext))
  (sRet (dAndV (dOp oEq (dFld [0] "top" nmW (dVar 0)) (dOp oIx (dVar 1) (dC (.int 0)))) (dOp oEq (dFld [0] "bottom" nmW (dVar 0)) (dOp oIx (dVar 1) (dC (.int 1)))))))
def fn_law_same : List D → O := fn0 2 0 bd_law_same
def bd_law_same_term : Rho → S :=
  sSeq (sAsgO 2 (dLsO opLst (aCons (dTup (aCons (dVar 0) (aCons (dVar 1) (aNil)))) (aNil))))
  (sSeq (sWhile mBig (dB (dOp oGt (dOwnLen 2) (dC (.int 0)))) (sSeq (sAsg 3 (dPop 2))
  (sSeq (sAsg 4 (dOp oIx (dVar 3) (dC (.int 0))))
  (sSeq (sAsg 5 (dOp oIx (dVar 3) (dC (.int 1))))
  (sSeq (sIf (dOr (dNot (dB (dUn (oIsT "tuple") (dVar 4)))) (dOr (dB (dOp oNe (dLs oLen (aCons (dVar 4) aNil)) (dLs oLen (aCons (dVar 5) aNil)))) (dOr (dNot (dB (dUn (oIsT "str") (dOp oIx (dVar 4) (dC (.int 0)))))) (dB (dOp oNe (dOp oIx (dVar 4) (dC (.int 0))) (dOp oIx (dVar 5) (dC (.int 0)))))))) (sRet (dC (.bl false))) (sNext))
  (sIf (dB (dOp oEq (dOp oIx (dVar 5) (dC (.int 0))) (dC (.str "number")))) (sIf (dNot (dB (dFr (dCall0 0 fn_law_same (aCons (dOp oIx (dVar 4) (dC (.int 1))) (aCons (dOp oIx (dVar 5) (dC (.int 1))) (aNil))))))) (sRet (dC (.bl false))) (sNext)) (sIf (dB (dOp oEq (dOp oIx (dVar 5) (dC (.int 0))) (dC (.str "letter")))) (sIf (dOr (dNot (dB (dUn (oIsT "str") (dOp oIx (dVar 4) (dC (.int 1)))))) (dB (dOp oNe (dOp oIx (dVar 4) (dC (.int 1))) (dOp oIx (dVar 5) (dC (.int 1)))))) (sRet (dC (.bl false))) (sNext)) (sFor (iRg (aCons (dC (.int 1)) (aCons (dLs oLen (aCons (dVar 5) aNil)) aNil))) (putFro 6) (sDrop (dAppend 2 (dTup (aCons (dOp oIx (dVar 4) (dVar 6)) (aCons (dOp oIx (dVar 5) (dVar 6)) (aNil))))))))))))))
  (sRet (dC (.bl true))))
def fn_law_same_term : List D → O := fn0 7 0 bd_law_same_term
def bd_Ratio_text : Rho → S :=
  sSeq (sIf (dB (dOp oEq (dFld [0] "bottom" nmW (dVar 0)) (dC (.int 1)))) (sRet (dLs oStrI (aCons (dFld [0] "top" nmW (dVar 0)) aNil))) (sNext))
  (sRet (dOp oAdd (dOp oAdd (dLs oStrI (aCons (dFld [0] "top" nmW (dVar 0)) aNil)) (dC (.str "/"))) (dLs oStrI (aCons (dFld [0] "bottom" nmW (dVar 0)) aNil))))
def fn_Ratio_text : List D → O := fn0 1 0 bd_Ratio_text
def bd_write_part (rec : List D → O) : Rho → S :=
  sSeq (sAsg 2 (dFr (dCall0 0 rec (aCons (dVar 0) (aNil)))))
  (sSeq (sIf (dB (dOp oLt (dUn (oKd kd_LEVELS) (dOp oIx (dVar 0) (dC (.int 0)))) (dVar 1))) (sRet (dOp oAdd (dOp oAdd (dC (.str "(")) (dVar 2)) (dC (.str ")")))) (sNext))
  (sRet (dVar 2)))
def fn_write_part (rec : List D → O) : List D → O := fn0 3 0 (bd_write_part rec)
def bd_write_sum (rec : List D → O) : Rho → S :=
  sSeq (sIf (dB (dOp oEq (dOp oIx (dVar 0) (dC (.int 0))) (dC (.str "number")))) (sRet (dFr (dMeth0 0 0 fn_Ratio_text (dOp oIx (dVar 0) (dC (.int 1))) aNil))) (sNext))
  (sSeq (sIf (dB (dOp oEq (dOp oIx (dVar 0) (dC (.int 0))) (dC (.str "letter")))) (sRet (dOp oIx (dVar 0) (dC (.int 1)))) (sNext))
  (sSeq (sIf (dB (dOp oEq (dOp oIx (dVar 0) (dC (.int 0))) (dC (.str "plus")))) (sRet (dOp oAdd (dOp oAdd (dFr (dCall0 0 (fn_write_part rec) (aCons (dOp oIx (dVar 0) (dC (.int 1))) (aCons (dC (.int 0)) (aNil))))) (dC (.str "+"))) (dFr (dCall0 0 (fn_write_part rec) (aCons (dOp oIx (dVar 0) (dC (.int 2))) (aCons (dC (.int 1)) (aNil))))))) (sNext))
  (sSeq (sIf (dB (dOp oEq (dOp oIx (dVar 0) (dC (.int 0))) (dC (.str "row")))) (sRet (dOp oAdd (dOp oAdd (dFr (dCall0 0 (fn_write_part rec) (aCons (dOp oIx (dVar 0) (dC (.int 1))) (aCons (dC (.int 1)) (aNil))))) (dC (.str "."))) (dFr (dCall0 0 (fn_write_part rec) (aCons (dOp oIx (dVar 0) (dC (.int 2))) (aCons (dC (.int 2)) (aNil))))))) (sNext))
  (sRet (dOp oAdd (dFr (dCall0 0 (fn_write_part rec) (aCons (dOp oIx (dVar 0) (dC (.int 1))) (aCons (dC (.int 2)) (aNil))))) (dC (.str "*")))))))
def fn_write_sum : Nat → List D → O
  | 0 => fun _ => .bad
  | n + 1 => fn0 1 0 (bd_write_sum (fn_write_sum n))
def bd_shared_part : Rho → S :=
  sSeq (sWhile (mInt 1) (dB (dOp oNe (dVar 1) (dC (.int 0)))) (sPar 0 1 (dVar 1) (dOp oMod (dVar 0) (dVar 1))))
  (sRet (dVar 0))
def fn_shared_part : List D → O := fn0 2 0 bd_shared_part
def bd_Ratio_init : Rho → S :=
  sSeq (sIf (dB (dOp oEq (dVar 2) (dC (.int 0)))) (sBad) (sNext))
  (sSeq (sIf (dB (dOp oLt (dVar 2) (dC (.int 0)))) (sPar 1 2 (dUn oNeg (dVar 1)) (dUn oNeg (dVar 2))) (sNext))
  (sSeq (sAsg 3 (dFr (dCall0 0 fn_shared_part (aCons (dLs oAbs (aCons (dVar 1) aNil)) (aCons (dVar 2) (aNil))))))
  (sSeq (sOwnFld 0 0 0 (dOp oDiv (dVar 1) (dVar 3)))
  (sOwnFld 0 0 1 (dOp oDiv (dVar 2) (dVar 3))))))
def fn_Ratio_init : D → List D → O1 := fn1 4 0 1 bd_Ratio_init
def bd_law_made (rec : List D → O) : Rho → S :=
  sSeq (sIf (dB (dOp oEq (dOp oIx (dVar 0) (dC (.int 0))) (dC (.str "number")))) (sRet (dTup (aCons (dC (.str "number")) (aCons (dFr (dMake 0 fn_Ratio_init [] (aCons (dOp oIx (dOp oIx (dVar 0) (dC (.int 1))) (dC (.int 0))) (aCons (dOp oIx (dOp oIx (dVar 0) (dC (.int 1))) (dC (.int 1))) (aNil))))) (aNil))))) (sNext))
  (sSeq (sIf (dB (dOp oEq (dOp oIx (dVar 0) (dC (.int 0))) (dC (.str "letter")))) (sRet (dVar 0)) (sNext))
  (sSeq (sIf (dB (dOp oEq (dOp oIx (dVar 0) (dC (.int 0))) (dC (.str "star")))) (sRet (dTup (aCons (dC (.str "star")) (aCons (dFr (dCall0 0 rec (aCons (dOp oIx (dVar 0) (dC (.int 1))) (aNil)))) (aNil))))) (sNext))
  (sRet (dTup (aCons (dOp oIx (dVar 0) (dC (.int 0))) (aCons (dFr (dCall0 0 rec (aCons (dOp oIx (dVar 0) (dC (.int 1))) (aNil)))) (aCons (dFr (dCall0 0 rec (aCons (dOp oIx (dVar 0) (dC (.int 2))) (aNil)))) (aNil))))))))
def fn_law_made : Nat → List D → O
  | 0 => fun _ => .bad
  | n + 1 => fn0 1 0 (bd_law_made (fn_law_made n))
def bd_law_text : Rho → S :=
  sSeq (sIf (dB (dOp oEq (dOp oIx (dVar 0) (dC (.int 1))) (dC (.int 1)))) (sRet (dLs oStrI (aCons (dOp oIx (dVar 0) (dC (.int 0))) aNil))) (sNext))
  (sRet (dOp oAdd (dOp oAdd (dLs oStrI (aCons (dOp oIx (dVar 0) (dC (.int 0))) aNil)) (dC (.str "/"))) (dLs oStrI (aCons (dOp oIx (dVar 0) (dC (.int 1))) aNil))))
def fn_law_text : List D → O := fn0 1 0 bd_law_text
def bd_law_part (rec : List D → O) : Rho → S :=
  sSeq (sIf (dB (dOp (oIn false) (dOp oIx (dVar 0) (dC (.int 0))) (dVar 1))) (sRet (dOp oAdd (dOp oAdd (dC (.str "(")) (dFr (dCall0 0 rec (aCons (dVar 0) (aNil))))) (dC (.str ")")))) (sNext))
  (sRet (dFr (dCall0 0 rec (aCons (dVar 0) (aNil)))))
def fn_law_part (rec : List D → O) : List D → O := fn0 2 0 (bd_law_part rec)
def bd_law_write (rec : List D → O) : Rho → S :=
  sSeq (sIf (dB (dOp oEq (dOp oIx (dVar 0) (dC (.int 0))) (dC (.str "number")))) (sRet (dFr (dCall0 0 fn_law_text (aCons (dOp oIx (dVar 0) (dC (.int 1))) (aNil))))) (sNext))
  (sSeq (sIf (dB (dOp oEq (dOp oIx (dVar 0) (dC (.int 0))) (dC (.str "letter")))) (sRet (dOp oIx (dVar 0) (dC (.int 1)))) (sNext))
  (sSeq (sIf (dB (dOp oEq (dOp oIx (dVar 0) (dC (.int 0))) (dC (.str "plus")))) (sRet (dOp oAdd (dOp oAdd (dFr (dCall0 0 rec (aCons (dOp oIx (dVar 0) (dC (.int 1))) (aNil)))) (dC (.str "+"))) (dFr (dCall0 0 (fn_law_part rec) (aCons (dOp oIx (dVar 0) (dC (.int 2))) (aCons (dFr (dLsO opLst (aCons (dC (.str "plus")) (aNil)))) (aNil))))))) (sNext))
  (sSeq (sIf (dB (dOp oEq (dOp oIx (dVar 0) (dC (.int 0))) (dC (.str "row")))) (sRet (dOp oAdd (dOp oAdd (dFr (dCall0 0 (fn_law_part rec) (aCons (dOp oIx (dVar 0) (dC (.int 1))) (aCons (dFr (dLsO opLst (aCons (dC (.str "plus")) (aNil)))) (aNil))))) (dC (.str "."))) (dFr (dCall0 0 (fn_law_part rec) (aCons (dOp oIx (dVar 0) (dC (.int 2))) (aCons (dFr (dLsO opLst (aCons (dC (.str "plus")) (aCons (dC (.str "row")) (aNil))))) (aNil))))))) (sNext))
  (sRet (dOp oAdd (dFr (dCall0 0 (fn_law_part rec) (aCons (dOp oIx (dVar 0) (dC (.int 1))) (aCons (dFr (dLsO opLst (aCons (dC (.str "plus")) (aCons (dC (.str "row")) (aNil))))) (aNil))))) (dC (.str "*")))))))
def fn_law_write : Nat → List D → O
  | 0 => fun _ => .bad
  | n + 1 => fn0 1 0 (bd_law_write (fn_law_write n))
def bd_law : Rho → S :=
  sSeq (sAsgO 1 (dCall0 1 fn_law_feed (aCons (dVar 0) (aNil))))
  (sSeq (sAsgO 2 (dLsO opLst (aNil)))
  (sSeq (sFor (iRg (aCons (dC (.int 2)) aNil)) (putFro 3) (sSeq (sAsg 4 (dFr (dCall1 0 1 1 fn_law_term (aNil))))
  (sDrop (dAppend 2 (dFr (dLsO opLst (aCons (dVar 4) (aCons (dFr (dCall0 0 (fn_law_made 60) (aCons (dVar 4) (aNil)))) (aCons (dFr (dCall0 0 (fn_law_write 60) (aCons (dVar 4) (aNil)))) (aNil))))))))))
  (sFrz 2 (sSeq (sFor (iRg (aCons (dC (.int 2)) aNil)) (putFro 5) (sFor (iLst (dVar 2)) (putFro 6) (sSeq (sAsg 7 (dFr (dCall0 0 (fn_write_sum 60) (aCons (dOp oIx (dVar 6) (dC (.int 1))) (aNil)))))
  (sSeq (sIf (dOr (dNot (dB (dUn (oIsT "str") (dVar 7)))) (dB (dOp oNe (dVar 7) (dOp oIx (dVar 6) (dC (.int 2)))))) (sRet (dC (.bl false))) (sNext))
  (sIf (dB (dOp oNe (dFr (dCall0 0 (fn_write_sum 60) (aCons (dFr (dCall0 0 (fn_law_made 60) (aCons (dOp oIx (dVar 6) (dC (.int 0))) (aNil)))) (aNil)))) (dOp oIx (dVar 6) (dC (.int 2))))) (sRet (dC (.bl false))) (sNext))))))
  (sRet (dAndV (dFr (dCall0 0 fn_law_same_term (aCons (dOp oIx (dOp oIx (dVar 2) (dC (.int 0))) (dC (.int 1))) (aCons (dOp oIx (dOp oIx (dVar 2) (dC (.int 0))) (dC (.int 0))) (aNil))))) (dFr (dCall0 0 fn_law_same_term (aCons (dOp oIx (dOp oIx (dVar 2) (dC (.int 1))) (dC (.int 1))) (aCons (dOp oIx (dOp oIx (dVar 2) (dC (.int 1))) (dC (.int 0))) (aNil)))))))))))
def fn_law : List D → O := fn0 8 0 bd_law
/-! the walk of law_k26_write_sum -/
def top (i : Nat) : Stmt := PySem.Challenge.pw_wordworth_k26_write_sum.main.body.getD i (.Pass ⟨0, 0, 0, 0⟩)
abbrev st_law_feed : Stmt := top 12
abbrev st_law_draw : Stmt := top 13
abbrev st_law_pair : Stmt := top 15
abbrev st_law_great : Stmt := top 14
abbrev st_law_leaf : Stmt := top 18
abbrev st_law_joined : Stmt := top 19
abbrev st_law_bush : Stmt := top 20
abbrev st_law_chain : Stmt := top 21
abbrev st_law_wide_term : Stmt := top 22
abbrev st_law_term : Stmt := top 23
abbrev st_law_is_integer : Stmt := top 16
abbrev st_law_same : Stmt := top 17
abbrev st_law_same_term : Stmt := top 28
abbrev st_Ratio_text : Stmt := inClass (top 6) 10
abbrev st_write_part : Stmt := top 9
abbrev st_write_sum : Stmt := top 10
abbrev st_shared_part : Stmt := top 5
abbrev st_Ratio_init : Stmt := inClass (top 6) 0
abbrev st_law_made : Stmt := top 24
abbrev st_law_text : Stmt := top 25
abbrev st_law_part : Stmt := top 26
abbrev st_law_write : Stmt := top 27
abbrev st_law : Stmt := top 29
section
variable {P : Program} {w : World} {G : Gam} {mg : Str → Option Value} {base : Heap}
theorem sc_law_feed : FnScope ["script", "cell"] ["script"] (defScope st_law_feed) := ⟨rfl, rfl, rfl, by decide +kernel, rfl, by decide +kernel, by decide +kernel⟩
theorem by_law_feed   (hnm : G.nm = nmW) (n_abs : mg "abs" = none) (n_len : mg "len" = none) : Body0 P w G mg base 0 ["script", "cell"] ["script"] "_law_feed" st_law_feed sc_law_feed bd_law_feed := by
  obtain ⟨K, cl, nm⟩ := G
  cases hnm
  intro Pn f cdv A outer s H E hr
  exact (qs_one (qs_retO (q_lst (qa_cons (q_fr (q_comp [("cell", 1)] (qi_list (q_sl (qv 0) qp_none (qp_some q_int))) (qg_name 1) qts_nil (q_abs n_abs (qv 1)))) (qa_cons q_int (qa_cons q_int (qa_cons (q_add q_int (q_len n_len (qv 0))) qa_nil)))))))
theorem sc_law_draw : FnScope ["feed", "limit", "cells", "cell", "found"] ["feed", "limit"] (defScope st_law_draw) := ⟨rfl, rfl, rfl, by decide +kernel, rfl, by decide +kernel, by decide +kernel⟩
theorem by_law_draw   (hnm : G.nm = nmW) (n_len : mg "len" = none) (n_int : mg "int" = none) : Body0 P w G mg base 0 ["feed", "limit", "cells", "cell", "found"] ["feed", "limit"] "_law_draw" st_law_draw sc_law_draw bd_law_draw := by
  obtain ⟨K, cl, nm⟩ := G
  cases hnm
  intro Pn f cdv A outer s H E hr
  exact (qs_cons (qs_set 2 (q_oix 0 q_int))
  (qs_cons (qs_if (qt_w (qw_and (qt_eq (q_oix 0 q_int) q_int) (qw_and1 (qt_lt (q_oix 0 q_int) (q_len n_len (qv 2)))))) (qs_cons (qs_set 3 (q_ix (qv 2) (q_oix 0 q_int)))
  (qs_cons (qs_oset 0 (q_add (q_oix 0 q_int) q_int) q_int)
  (qs_one (qs_if (qt_ge (qv 3) (q_pow q_int q_int)) (qs_one (qs_oset 0 (qv 3) q_int)) (qs_one (qs_oset 0 (q_mod (q_intc n_int (q_add (q_add (q_mul (q_oix 0 q_int) q_int) (q_mul (qv 3) q_int)) q_int)) q_int) q_int)))))) qs_nil)
  (qs_cons (qs_if (qt_gt (q_oix 0 q_int) q_int) (qs_cons (qs_set 4 (q_mod (q_intc n_int (q_oix 0 q_int)) (qv 1)))
  (qs_cons (qs_oset 0 (q_div (q_oix 0 q_int) (qv 1)) q_int)
  (qs_one (qs_ret (qv 4))))) qs_nil)
  (qs_cons (qs_oset 0 (q_mod (q_intc n_int (q_add (q_mul (q_oix 0 q_int) q_int) q_int)) q_int) q_int)
  (qs_one (qs_ret (q_mod (q_intc n_int (q_add (q_div (q_mul (q_oix 0 q_int) (q_oix 0 q_int)) q_int) (q_div (q_oix 0 q_int) q_int))) (qv 1))))))))
theorem sc_law_pair : FnScope ["above", "below", "one", "two"] ["above", "below"] (defScope st_law_pair) := ⟨rfl, rfl, rfl, by decide +kernel, rfl, by decide +kernel, by decide +kernel⟩
theorem by_law_pair   (hnm : G.nm = nmW) (n_abs : mg "abs" = none) (n_int : mg "int" = none) : Body0 P w G mg base 0 ["above", "below", "one", "two"] ["above", "below"] "_law_pair" st_law_pair sc_law_pair bd_law_pair := by
  obtain ⟨K, cl, nm⟩ := G
  cases hnm
  intro Pn f cdv A outer s H E hr
  exact (qs_cons (qs_set 2 (q_abs n_abs (qv 0)))
  (qs_cons (qs_set 3 (q_abs n_abs (qv 1)))
  (qs_cons (qs_while (mInt 3) (qt_gt (qv 3) q_int) (qs_one (qs_par 2 3 (qv 3) (q_mod (q_intc n_int (qv 2)) (qv 3)))))
  (qs_cons (qs_if (qt_lt (qv 1) q_int) (qs_one (qs_set 2 (q_sub q_int (qv 2)))) qs_nil)
  (qs_one (qs_ret (q_tup (qa_cons (q_div (qv 0) (qv 2)) (qa_cons (q_div (qv 1) (qv 2)) qa_nil)))))))))
theorem sc_law_great : FnScope ["feed", "parts", "found", "k"] ["feed", "parts"] (defScope st_law_great) := ⟨rfl, rfl, rfl, by decide +kernel, rfl, by decide +kernel, by decide +kernel⟩
theorem by_law_great   (hnm : G.nm = nmW) (n_range : mg "range" = none) (c_law_draw : CallOk P w G.K mg base "_law_draw" 1 (spec1 G 0 1 2 fn_law_draw)) : Body0 P w G mg base 1 ["feed", "parts", "found", "k"] ["feed", "parts"] "_law_great" st_law_great sc_law_great bd_law_great := by
  obtain ⟨K, cl, nm⟩ := G
  cases hnm
  intro Pn f cdv A outer s H E hr
  exact (qs_cons (qs_set 2 q_int)
  (qs_cons (qs_for (qi_rg1 n_range (qv 1)) (qg_name 3) (qs_one (qs_set 2 (q_add (q_mul (qv 2) q_int) (q_fr (q_callO1 0 c_law_draw (by show 1 ≤ 1; decide) (qa_cons q_int qa_nil)))))))
  (qs_one (qs_ret (qv 2)))))
theorem sc_law_leaf : FnScope ["feed", "wide", "kind", "above"] ["feed", "wide"] (defScope st_law_leaf) := ⟨rfl, rfl, rfl, by decide +kernel, rfl, by decide +kernel, by decide +kernel⟩
theorem by_law_leaf   (hnm : G.nm = nmW) (c_law_draw : CallOk P w G.K mg base "_law_draw" 1 (spec1 G 0 1 2 fn_law_draw)) (c_law_great : CallOk P w G.K mg base "_law_great" 2 (spec1 G 0 1 2 fn_law_great)) (n_max : mg "max" = none) (c_law_pair : CallOk P w G.K mg base "_law_pair" 1 (spec0 G 0 2 fn_law_pair)) : Body0 P w G mg base 2 ["feed", "wide", "kind", "above"] ["feed", "wide"] "_law_leaf" st_law_leaf sc_law_leaf bd_law_leaf := by
  obtain ⟨K, cl, nm⟩ := G
  cases hnm
  intro Pn f cdv A outer s H E hr
  exact (qs_cons (qs_set 2 (q_fr (q_callO1 0 c_law_draw (by show 1 ≤ 2; decide) (qa_cons q_int qa_nil))))
  (qs_cons (qs_if (qt_lt (qv 2) q_int) (qs_one (qs_ret (q_tup (qa_cons q_str (qa_cons (q_ix q_str (q_fr (q_callO1 0 c_law_draw (by show 1 ≤ 2; decide) (qa_cons q_int qa_nil)))) qa_nil))))) qs_nil)
  (qs_cons (qs_if (qt_eq (qv 2) q_int) (qs_one (qs_ret (q_tup (qa_cons q_str (qa_cons (q_tup (qa_cons (q_sub (q_fr (q_callO1 0 c_law_draw (by show 1 ≤ 2; decide) (qa_cons q_int qa_nil))) q_int) (qa_cons q_int qa_nil))) qa_nil))))) qs_nil)
  (qs_cons (qs_if (qt_gt (qv 1) q_int) (qs_cons (qs_set 3 (q_mul (q_fr (q_callO1 0 c_law_great (by show 2 ≤ 2; decide) (qa_cons (qv 1) qa_nil))) (q_sub q_int (q_mul q_int (q_fr (q_callO1 0 c_law_draw (by show 1 ≤ 2; decide) (qa_cons q_int qa_nil)))))))
  (qs_one (qs_ret (q_tup (qa_cons q_str (qa_cons (q_fr (q_callO c_law_pair (by show 1 ≤ 2; decide) (qa_cons (qv 3) (qa_cons (q_max2 n_max q_int (q_fr (q_callO1 0 c_law_great (by show 2 ≤ 2; decide) (qa_cons (qv 1) qa_nil)))) qa_nil)))) qa_nil)))))) qs_nil)
  (qs_one (qs_ret (q_tup (qa_cons q_str (qa_cons (q_fr (q_callO c_law_pair (by show 1 ≤ 2; decide) (qa_cons (q_sub (q_fr (q_callO1 0 c_law_draw (by show 1 ≤ 2; decide) (qa_cons q_int qa_nil))) q_int) (qa_cons (q_add q_int (q_fr (q_callO1 0 c_law_draw (by show 1 ≤ 2; decide) (qa_cons q_int qa_nil)))) qa_nil)))) qa_nil)))))))))
theorem sc_law_joined : FnScope ["feed", "one", "two"] ["feed", "one", "two"] (defScope st_law_joined) := ⟨rfl, rfl, rfl, by decide +kernel, rfl, by decide +kernel, by decide +kernel⟩
theorem by_law_joined   (hnm : G.nm = nmW) (c_law_draw : CallOk P w G.K mg base "_law_draw" 1 (spec1 G 0 1 2 fn_law_draw)) : Body0 P w G mg base 1 ["feed", "one", "two"] ["feed", "one", "two"] "_law_joined" st_law_joined sc_law_joined bd_law_joined := by
  obtain ⟨K, cl, nm⟩ := G
  cases hnm
  intro Pn f cdv A outer s H E hr
  exact (qs_one (qs_ret (q_tup (qa_cons (q_ix (q_fr (q_lst (qa_cons q_str (qa_cons q_str qa_nil)))) (q_fr (q_callO1 0 c_law_draw (by show 1 ≤ 1; decide) (qa_cons q_int qa_nil)))) (qa_cons (qv 1) (qa_cons (qv 2) qa_nil))))))
theorem sc_law_bush : FnScope ["feed", "wide", "items", "k", "turn", "at"] ["feed", "wide"] (defScope st_law_bush) := ⟨rfl, rfl, rfl, by decide +kernel, rfl, by decide +kernel, by decide +kernel⟩
theorem by_law_bush   (hnm : G.nm = nmW) (c_law_draw : CallOk P w G.K mg base "_law_draw" 1 (spec1 G 0 1 2 fn_law_draw)) (n_range : mg "range" = none) (c_law_leaf : CallOk P w G.K mg base "_law_leaf" 3 (spec1 G 0 1 2 fn_law_leaf)) (n_len : mg "len" = none) (c_law_joined : CallOk P w G.K mg base "_law_joined" 2 (spec1 G 0 1 3 fn_law_joined)) : Body0 P w G mg base 3 ["feed", "wide", "items", "k", "turn", "at"] ["feed", "wide"] "_law_bush" st_law_bush sc_law_bush bd_law_bush := by
  obtain ⟨K, cl, nm⟩ := G
  cases hnm
  intro Pn f cdv A outer s H E hr
  exact (qs_cons (qs_setcO [("k", 3)] 2 (qi_rg1 n_range (q_add q_int (q_fr (q_callO1 0 c_law_draw (by show 1 ≤ 3; decide) (qa_cons q_int qa_nil))))) (qg_name 3) qts_nil (q_fr (q_callO1 0 c_law_leaf (by show 3 ≤ 3; decide) (qa_cons (qv 1) qa_nil))))
  (qs_cons (qs_for (qi_rg1 n_range q_int) (qg_name 4) (qs_cons (qs_if (qt_eq (q_fr (q_callO1 0 c_law_draw (by show 1 ≤ 3; decide) (qa_cons q_int qa_nil))) q_int) (qs_cons (qs_set 5 (q_fr (q_callO1 0 c_law_draw (by show 1 ≤ 3; decide) (qa_cons (q_olen 2 n_len) qa_nil))))
  (qs_one (qs_oset 2 (q_tup (qa_cons q_str (qa_cons (q_oix 2 (qv 5)) qa_nil))) (qv 5)))) qs_nil)
  (qs_one (qs_if (qt_gt (q_olen 2 n_len) q_int) (qs_cons (qs_set 5 (q_fr (q_callO1 0 c_law_draw (by show 1 ≤ 3; decide) (qa_cons (q_sub (q_olen 2 n_len) q_int) qa_nil))))
  (qs_one (qs_setO 2 (q_cat (q_add (q_osl 2 qp_none (qp_some (qv 5))) (q_fr (q_lst (qa_cons (q_fr (q_callO1 0 c_law_joined (by show 2 ≤ 3; decide) (qa_cons (q_oix 2 (qv 5)) (qa_cons (q_oix 2 (q_add (qv 5) q_int)) qa_nil)))) qa_nil)))) (q_osl 2 (qp_some (q_add (qv 5) q_int)) qp_none))))) qs_nil))))
  (qs_one (qs_ret (q_oix 2 q_int)))))
theorem sc_law_chain : FnScope ["feed", "wide", "many", "found", "turn", "kind"] ["feed", "wide", "many"] (defScope st_law_chain) := ⟨rfl, rfl, rfl, by decide +kernel, rfl, by decide +kernel, by decide +kernel⟩
theorem by_law_chain   (hnm : G.nm = nmW) (c_law_leaf : CallOk P w G.K mg base "_law_leaf" 3 (spec1 G 0 1 2 fn_law_leaf)) (n_range : mg "range" = none) (c_law_draw : CallOk P w G.K mg base "_law_draw" 1 (spec1 G 0 1 2 fn_law_draw)) (c_law_joined : CallOk P w G.K mg base "_law_joined" 2 (spec1 G 0 1 3 fn_law_joined)) : Body0 P w G mg base 3 ["feed", "wide", "many", "found", "turn", "kind"] ["feed", "wide", "many"] "_law_chain" st_law_chain sc_law_chain bd_law_chain := by
  obtain ⟨K, cl, nm⟩ := G
  cases hnm
  intro Pn f cdv A outer s H E hr
  exact (qs_cons (qs_set 3 (q_fr (q_callO1 0 c_law_leaf (by show 3 ≤ 3; decide) (qa_cons (qv 1) qa_nil))))
  (qs_cons (qs_for (qi_rg1 n_range (qv 2)) (qg_name 4) (qs_cons (qs_set 5 (q_fr (q_callO1 0 c_law_draw (by show 1 ≤ 3; decide) (qa_cons q_int qa_nil))))
  (qs_one (qs_if (qt_eq (qv 5) q_int) (qs_one (qs_set 3 (q_tup (qa_cons q_str (qa_cons (qv 3) qa_nil))))) (qs_one (qs_if (qt_eq (qv 5) q_int) (qs_one (qs_set 3 (q_fr (q_callO1 0 c_law_joined (by show 2 ≤ 3; decide) (qa_cons (qv 3) (qa_cons (q_fr (q_callO1 0 c_law_leaf (by show 3 ≤ 3; decide) (qa_cons (qv 1) qa_nil))) qa_nil)))))) (qs_one (qs_set 3 (q_fr (q_callO1 0 c_law_joined (by show 2 ≤ 3; decide) (qa_cons (q_fr (q_callO1 0 c_law_leaf (by show 3 ≤ 3; decide) (qa_cons (qv 1) qa_nil))) (qa_cons (qv 3) qa_nil))))))))))))
  (qs_one (qs_ret (qv 3)))))
theorem sc_law_wide_term : FnScope ["feed", "wide", "items", "k", "turn", "pairs", "pair"] ["feed", "wide"] (defScope st_law_wide_term) := ⟨rfl, rfl, rfl, by decide +kernel, rfl, by decide +kernel, by decide +kernel⟩
theorem by_law_wide_term   (hnm : G.nm = nmW) (n_range : mg "range" = none) (c_law_leaf : CallOk P w G.K mg base "_law_leaf" 3 (spec1 G 0 1 2 fn_law_leaf)) (n_len : mg "len" = none) (c_law_joined : CallOk P w G.K mg base "_law_joined" 2 (spec1 G 0 1 3 fn_law_joined)) : Body0 P w G mg base 3 ["feed", "wide", "items", "k", "turn", "pairs", "pair"] ["feed", "wide"] "_law_wide_term" st_law_wide_term sc_law_wide_term bd_law_wide_term := by
  obtain ⟨K, cl, nm⟩ := G
  cases hnm
  intro Pn f cdv A outer s H E hr
  exact (qs_cons (qs_set 2 (q_fr (q_comp [("k", 3)] (qi_rg1 n_range q_int) (qg_name 3) qts_nil (q_fr (q_callO1 0 c_law_leaf (by show 3 ≤ 3; decide) (qa_cons (qv 1) qa_nil))))))
  (qs_cons (qs_for (qi_rg1 n_range q_int) (qg_name 4) (qs_cons (qs_setc [("k", 3)] 5 (qi_rg3 n_range q_int (q_len n_len (qv 2)) q_int) (qg_name 3) qts_nil (q_sl (qv 2) (qp_some (qv 3)) (qp_some (q_add (qv 3) q_int))))
  (qs_one (qs_set 2 (q_add (q_fr (q_comp [("pair", 6)] (qi_list (qv 5)) (qg_name 6) (qts_one (qt_eq (q_len n_len (qv 6)) q_int)) (q_fr (q_callO1 0 c_law_joined (by show 2 ≤ 3; decide) (qa_cons (q_ix (qv 6) q_int) (qa_cons (q_ix (qv 6) (q_neg q_int)) qa_nil)))))) (q_sl (qv 2) (qp_some (q_mul (q_div (q_len n_len (qv 2)) q_int) q_int)) qp_none))))))
  (qs_one (qs_ret (q_ix (qv 2) q_int)))))
theorem sc_law_term : FnScope ["feed", "wide", "kind"] ["feed"] (defScope st_law_term) := ⟨rfl, rfl, rfl, by decide +kernel, rfl, by decide +kernel, by decide +kernel⟩
theorem by_law_term   (hnm : G.nm = nmW) (c_law_draw : CallOk P w G.K mg base "_law_draw" 1 (spec1 G 0 1 2 fn_law_draw)) (n_int : mg "int" = none) (c_law_chain : CallOk P w G.K mg base "_law_chain" 4 (spec1 G 0 1 3 fn_law_chain)) (c_law_wide_term : CallOk P w G.K mg base "_law_wide_term" 4 (spec1 G 0 1 2 fn_law_wide_term)) (c_law_bush : CallOk P w G.K mg base "_law_bush" 4 (spec1 G 0 1 2 fn_law_bush)) : Body0 P w G mg base 4 ["feed", "wide", "kind"] ["feed"] "_law_term" st_law_term sc_law_term bd_law_term := by
  obtain ⟨K, cl, nm⟩ := G
  cases hnm
  intro Pn f cdv A outer s H E hr
  exact (qs_cons (qs_set 1 (q_mul q_int (q_intc n_int (q_eq (q_fr (q_callO1 0 c_law_draw (by show 1 ≤ 4; decide) (qa_cons q_int qa_nil))) q_int))))
  (qs_cons (qs_set 2 (q_fr (q_callO1 0 c_law_draw (by show 1 ≤ 4; decide) (qa_cons q_int qa_nil))))
  (qs_cons (qs_if (qt_eq (qv 2) q_int) (qs_one (qs_ret (q_fr (q_callO1 0 c_law_chain (by show 4 ≤ 4; decide) (qa_cons (qv 1) (qa_cons q_int qa_nil)))))) qs_nil)
  (qs_cons (qs_if (qt_lt (qv 2) q_int) (qs_one (qs_ret (q_fr (q_callO1 0 c_law_chain (by show 4 ≤ 4; decide) (qa_cons (qv 1) (qa_cons (q_fr (q_callO1 0 c_law_draw (by show 1 ≤ 4; decide) (qa_cons q_int qa_nil))) qa_nil)))))) qs_nil)
  (qs_cons (qs_if (qt_eq (qv 2) q_int) (qs_one (qs_ret (q_fr (q_callO1 0 c_law_wide_term (by show 4 ≤ 4; decide) (qa_cons (qv 1) qa_nil))))) qs_nil)
  (qs_one (qs_ret (q_fr (q_callO1 0 c_law_bush (by show 4 ≤ 4; decide) (qa_cons (qv 1) qa_nil))))))))))
theorem sc_law_is_integer : FnScope ["actual"] ["actual"] (defScope st_law_is_integer) := ⟨rfl, rfl, rfl, by decide +kernel, rfl, by decide +kernel, by decide +kernel⟩
theorem by_law_is_integer   (hnm : G.nm = nmW) (n_isinstance : mg "isinstance" = none) (n_int : mg "int" = none) (n_bool : mg "bool" = none) : Body0 P w G mg base 0 ["actual"] ["actual"] "_law_is_integer" st_law_is_integer sc_law_is_integer bd_law_is_integer := by
  obtain ⟨K, cl, nm⟩ := G
  cases hnm
  intro Pn f cdv A outer s H E hr
  exact (qs_one (qs_ret (q_and (q_isT ty_int (by decide +kernel) n_isinstance n_int (qv 0)) (q_one (q_not (q_isT ty_bool (by decide +kernel) n_isinstance n_bool (qv 0)))))))
theorem sc_law_same : FnScope ["actual", "due"] ["actual", "due"] (defScope st_law_same) := ⟨rfl, rfl, rfl, by decide +kernel, rfl, by decide +kernel, by decide +kernel⟩
theorem by_law_same   (hnm : G.nm = nmW) (ins0 : InsOk G 0) (m_Ratio : mg "Ratio" = some (.ref (G.cl 0))) (n_isinstance : mg "isinstance" = none) (cls0 : ClsOk G 0) (c_law_is_integer : CallOk P w G.K mg base "_law_is_integer" 1 (spec0 G 0 1 fn_law_is_integer)) : Body0 P w G mg base 1 ["actual", "due"] ["actual", "due"] "_law_same" st_law_same sc_law_same bd_law_same := by
  obtain ⟨K, cl, nm⟩ := G
  cases hnm
  intro Pn f cdv A outer s H E hr
  exact (qs_cons (qs_if (qt_not (qt_val (q_isC 0 ins0 m_Ratio n_isinstance (qv 0)))) (qs_one (qs_ret q_bl)) qs_nil)
  (qs_cons (qs_if (qt_w (qw_or (qt_not (qt_val (q_fr (q_callO c_law_is_integer (by show 1 ≤ 1; decide) (qa_cons (q_fld [0] (fldH cls0 rfl (by decide)) (qv 0)) qa_nil))))) (qw_or1 (qt_not (qt_val (q_fr (q_callO c_law_is_integer (by show 1 ≤ 1; decide) (qa_cons (q_fld [0] (fldH cls0 rfl (by decide)) (qv 0)) qa_nil)))))))) (qs_one (qs_ret q_bl)) qs_nil)
  (qs_one (qs_ret (q_and (q_eq (q_fld [0] (fldH cls0 rfl (by decide)) (qv 0)) (q_ix (qv 1) q_int)) (q_one (q_eq (q_fld [0] (fldH cls0 rfl (by decide)) (qv 0)) (q_ix (qv 1) q_int))))))))
theorem sc_law_same_term : FnScope ["actual", "due", "waiting", "pair", "one", "two", "k"] ["actual", "due"] (defScope st_law_same_term) := ⟨rfl, rfl, rfl, by decide +kernel, rfl, by decide +kernel, by decide +kernel⟩
theorem by_law_same_term   (hnm : G.nm = nmW) (n_len : mg "len" = none) (n_isinstance : mg "isinstance" = none) (n_tuple : mg "tuple" = none) (n_str : mg "str" = none) (c_law_same : CallOk P w G.K mg base "_law_same" 2 (spec0 G 0 2 fn_law_same)) (n_range : mg "range" = none) : Body0 P w G mg base 2 ["actual", "due", "waiting", "pair", "one", "two", "k"] ["actual", "due"] "_law_same_term" st_law_same_term sc_law_same_term bd_law_same_term := by
  obtain ⟨K, cl, nm⟩ := G
  cases hnm
  intro Pn f cdv A outer s H E hr
  exact (qs_cons (qs_setO 2 (q_lst (qa_cons (q_tup (qa_cons (qv 0) (qa_cons (qv 1) qa_nil))) qa_nil)))
  (qs_cons (qs_while mBig (qt_gt (q_olen 2 n_len) q_int) (qs_cons (qs_set 3 (q_pop 2))
  (qs_cons (qs_set 4 (q_ix (qv 3) q_int))
  (qs_cons (qs_set 5 (q_ix (qv 3) q_int))
  (qs_cons (qs_if (qt_w (qw_or (qt_not (qt_val (q_isT ty_tuple (by decide +kernel) n_isinstance n_tuple (qv 4)))) (qw_or (qt_ne (q_len n_len (qv 4)) (q_len n_len (qv 5))) (qw_or (qt_not (qt_val (q_isT ty_str (by decide +kernel) n_isinstance n_str (q_ix (qv 4) q_int)))) (qw_or1 (qt_ne (q_ix (qv 4) q_int) (q_ix (qv 5) q_int))))))) (qs_one (qs_ret q_bl)) qs_nil)
  (qs_one (qs_if (qt_eq (q_ix (qv 5) q_int) q_str) (qs_one (qs_if (qt_not (qt_val (q_fr (q_callO c_law_same (by show 2 ≤ 2; decide) (qa_cons (q_ix (qv 4) q_int) (qa_cons (q_ix (qv 5) q_int) qa_nil)))))) (qs_one (qs_ret q_bl)) qs_nil)) (qs_one (qs_if (qt_eq (q_ix (qv 5) q_int) q_str) (qs_one (qs_if (qt_w (qw_or (qt_not (qt_val (q_isT ty_str (by decide +kernel) n_isinstance n_str (q_ix (qv 4) q_int)))) (qw_or1 (qt_ne (q_ix (qv 4) q_int) (q_ix (qv 5) q_int))))) (qs_one (qs_ret q_bl)) qs_nil)) (qs_one (qs_for (qi_rg2 n_range q_int (q_len n_len (qv 5))) (qg_name 6) (qs_one (qs_expr (q_append 2 (q_tup (qa_cons (q_ix (qv 4) (qv 6)) (qa_cons (q_ix (qv 5) (qv 6)) qa_nil)))))))))))))))))
  (qs_one (qs_ret q_bl))))
theorem sc_Ratio_text : FnScope ["self"] ["self"] (defScope st_Ratio_text) := ⟨rfl, rfl, rfl, by decide +kernel, rfl, by decide +kernel, by decide +kernel⟩
theorem by_Ratio_text   (hnm : G.nm = nmW) (cls0 : ClsOk G 0) (n_str : mg "str" = none) : Body0 P w G mg base 0 ["self"] ["self"] "Ratio.text" st_Ratio_text sc_Ratio_text bd_Ratio_text := by
  obtain ⟨K, cl, nm⟩ := G
  cases hnm
  intro Pn f cdv A outer s H E hr
  exact (qs_cons (qs_if (qt_eq (q_fld [0] (fldH cls0 rfl (by decide)) (qv 0)) q_int) (qs_one (qs_ret (q_strc n_str (q_fld [0] (fldH cls0 rfl (by decide)) (qv 0))))) qs_nil)
  (qs_one (qs_ret (q_add (q_add (q_strc n_str (q_fld [0] (fldH cls0 rfl (by decide)) (qv 0))) q_str) (q_strc n_str (q_fld [0] (fldH cls0 rfl (by decide)) (qv 0)))))))
theorem sc_write_part : FnScope ["term", "least", "text"] ["term", "least"] (defScope st_write_part) := ⟨rfl, rfl, rfl, by decide +kernel, rfl, by decide +kernel, by decide +kernel⟩
theorem by_write_part {n : Nat} {rec : List D → O}  {a_LEVELS : Addr} (hnm : G.nm = nmW) (c_write_sum : CallOk P w G.K mg base "write_sum" n (spec0 G 0 1 rec)) (k_LEVELS : KdOk G w a_LEVELS kd_LEVELS) (m_LEVELS : mg "LEVELS" = some (.ref a_LEVELS)) (hlv : 1 ≤ n) : Body0 P w G mg base n ["term", "least", "text"] ["term", "least"] "write_part" st_write_part sc_write_part (bd_write_part rec) := by
  obtain ⟨K, cl, nm⟩ := G
  cases hnm
  intro Pn f cdv A outer s H E hr
  exact (qs_cons (qs_set 2 (q_fr (q_callO c_write_sum (by show n ≤ n; omega) (qa_cons (qv 0) qa_nil))))
  (qs_cons (qs_if (qt_lt (q_kd k_LEVELS m_LEVELS (q_ix (qv 0) q_int)) (qv 1)) (qs_one (qs_ret (q_add (q_add q_str (qv 2)) q_str))) qs_nil)
  (qs_one (qs_ret (qv 2)))))
theorem sc_write_sum : FnScope ["term"] ["term"] (defScope st_write_sum) := ⟨rfl, rfl, rfl, by decide +kernel, rfl, by decide +kernel, by decide +kernel⟩
theorem by_write_sum {n : Nat} {rec : List D → O}   (hnm : G.nm = nmW) (me_Ratio_text : MethOk P w G mg base 0 "text" 1 (spec0 G 0 1 fn_Ratio_text)) (c_write_part : CallOk P w G.K mg base "write_part" (n + 1) (spec0 G 0 2 (fn_write_part rec))) (hlv : 1 ≤ n) : Body0 P w G mg base (n + 1) ["term"] ["term"] "write_sum" st_write_sum sc_write_sum (bd_write_sum rec) := by
  obtain ⟨K, cl, nm⟩ := G
  cases hnm
  intro Pn f cdv A outer s H E hr
  exact (qs_cons (qs_if (qt_eq (q_ix (qv 0) q_int) q_str) (qs_one (qs_ret (q_fr (q_meth0 me_Ratio_text (by show 1 ≤ n + 1; omega) (q_ix (qv 0) q_int))))) qs_nil)
  (qs_cons (qs_if (qt_eq (q_ix (qv 0) q_int) q_str) (qs_one (qs_ret (q_ix (qv 0) q_int))) qs_nil)
  (qs_cons (qs_if (qt_eq (q_ix (qv 0) q_int) q_str) (qs_one (qs_ret (q_add (q_add (q_fr (q_callO c_write_part (by show (n + 1) ≤ n + 1; omega) (qa_cons (q_ix (qv 0) q_int) (qa_cons q_int qa_nil)))) q_str) (q_fr (q_callO c_write_part (by show (n + 1) ≤ n + 1; omega) (qa_cons (q_ix (qv 0) q_int) (qa_cons q_int qa_nil))))))) qs_nil)
  (qs_cons (qs_if (qt_eq (q_ix (qv 0) q_int) q_str) (qs_one (qs_ret (q_add (q_add (q_fr (q_callO c_write_part (by show (n + 1) ≤ n + 1; omega) (qa_cons (q_ix (qv 0) q_int) (qa_cons q_int qa_nil)))) q_str) (q_fr (q_callO c_write_part (by show (n + 1) ≤ n + 1; omega) (qa_cons (q_ix (qv 0) q_int) (qa_cons q_int qa_nil))))))) qs_nil)
  (qs_one (qs_ret (q_add (q_fr (q_callO c_write_part (by show (n + 1) ≤ n + 1; omega) (qa_cons (q_ix (qv 0) q_int) (qa_cons q_int qa_nil)))) q_str)))))))
theorem sc_shared_part : FnScope ["one", "other"] ["one", "other"] (defScope st_shared_part) := ⟨rfl, rfl, rfl, by decide +kernel, rfl, by decide +kernel, by decide +kernel⟩
theorem by_shared_part   (hnm : G.nm = nmW)  : Body0 P w G mg base 0 ["one", "other"] ["one", "other"] "shared_part" st_shared_part sc_shared_part bd_shared_part := by
  obtain ⟨K, cl, nm⟩ := G
  cases hnm
  intro Pn f cdv A outer s H E hr
  exact (qs_cons (qs_while (mInt 1) (qt_ne (qv 1) q_int) (qs_one (qs_par 0 1 (qv 1) (q_mod (qv 0) (qv 1)))))
  (qs_one (qs_ret (qv 0))))
theorem sc_Ratio_init : FnScope ["self", "top", "bottom", "shared"] ["self", "top", "bottom"] (defScope st_Ratio_init) := ⟨rfl, rfl, rfl, by decide +kernel, rfl, by decide +kernel, by decide +kernel⟩
theorem non_Ratio_init : ∀ (ds : List D) (d e : D), fn_Ratio_init (.ins 0 []) ds = .ok d e → d = .non := fn1_non (show NoRt bd_Ratio_init from (noRt_seq (noRt_if noRt_bad noRt_next) (noRt_seq (noRt_if noRt_par noRt_next) (noRt_seq noRt_asg (noRt_seq noRt_fld noRt_fld)))))
theorem by_Ratio_init   (hnm : G.nm = nmW) (n_abs : mg "abs" = none) (c_shared_part : CallOk P w G.K mg base "shared_part" 1 (spec0 G 0 2 fn_shared_part)) (cls0 : ClsOk G 0) : Body0 P w G mg base 1 ["self", "top", "bottom", "shared"] ["self", "top", "bottom"] "Ratio.__init__" st_Ratio_init sc_Ratio_init bd_Ratio_init := by
  obtain ⟨K, cl, nm⟩ := G
  cases hnm
  intro Pn f cdv A outer s H E hr
  exact (qs_cons (qs_if (qt_eq (qv 2) q_int) (qs_one qs_never) qs_nil)
  (qs_cons (qs_if (qt_lt (qv 2) q_int) (qs_one (qs_par 1 2 (q_neg (qv 1)) (q_neg (qv 2)))) qs_nil)
  (qs_cons (qs_set 3 (q_fr (q_callO c_shared_part (by show 1 ≤ 1; decide) (qa_cons (q_abs n_abs (qv 1)) (qa_cons (qv 2) qa_nil)))))
  (qs_cons (qs_fld 0 0 0 cls0 rfl (q_div (qv 1) (qv 3)))
  (qs_one (qs_fld 0 0 1 cls0 rfl (q_div (qv 2) (qv 3))))))))
theorem sc_law_made : FnScope ["term"] ["term"] (defScope st_law_made) := ⟨rfl, rfl, rfl, by decide +kernel, rfl, by decide +kernel, by decide +kernel⟩
theorem by_law_made {n : Nat} {rec : List D → O}   (hnm : G.nm = nmW) (mk_Ratio_0 : MakeOk P w G mg base "Ratio" 0 2 [] (spec1 G 0 1 3 fn_Ratio_init)) (c_law_made : CallOk P w G.K mg base "_law_made" n (spec0 G 0 1 rec)) (hlv : 3 ≤ n) : Body0 P w G mg base n ["term"] ["term"] "_law_made" st_law_made sc_law_made (bd_law_made rec) := by
  obtain ⟨K, cl, nm⟩ := G
  cases hnm
  intro Pn f cdv A outer s H E hr
  exact (qs_cons (qs_if (qt_eq (q_ix (qv 0) q_int) q_str) (qs_one (qs_ret (q_tup (qa_cons q_str (qa_cons (q_fr (q_makeO mk_Ratio_0 (by show 2 + 1 ≤ n; omega) (qa_cons (q_ix (q_ix (qv 0) q_int) q_int) (qa_cons (q_ix (q_ix (qv 0) q_int) q_int) qa_nil)) non_Ratio_init)) qa_nil))))) qs_nil)
  (qs_cons (qs_if (qt_eq (q_ix (qv 0) q_int) q_str) (qs_one (qs_ret (qv 0))) qs_nil)
  (qs_cons (qs_if (qt_eq (q_ix (qv 0) q_int) q_str) (qs_one (qs_ret (q_tup (qa_cons q_str (qa_cons (q_fr (q_callO c_law_made (by show n ≤ n; omega) (qa_cons (q_ix (qv 0) q_int) qa_nil))) qa_nil))))) qs_nil)
  (qs_one (qs_ret (q_tup (qa_cons (q_ix (qv 0) q_int) (qa_cons (q_fr (q_callO c_law_made (by show n ≤ n; omega) (qa_cons (q_ix (qv 0) q_int) qa_nil))) (qa_cons (q_fr (q_callO c_law_made (by show n ≤ n; omega) (qa_cons (q_ix (qv 0) q_int) qa_nil))) qa_nil)))))))))
theorem sc_law_text : FnScope ["one"] ["one"] (defScope st_law_text) := ⟨rfl, rfl, rfl, by decide +kernel, rfl, by decide +kernel, by decide +kernel⟩
theorem by_law_text   (hnm : G.nm = nmW) (n_str : mg "str" = none) : Body0 P w G mg base 0 ["one"] ["one"] "_law_text" st_law_text sc_law_text bd_law_text := by
  obtain ⟨K, cl, nm⟩ := G
  cases hnm
  intro Pn f cdv A outer s H E hr
  exact (qs_cons (qs_if (qt_eq (q_ix (qv 0) q_int) q_int) (qs_one (qs_ret (q_strc n_str (q_ix (qv 0) q_int)))) qs_nil)
  (qs_one (qs_ret (q_add (q_add (q_strc n_str (q_ix (qv 0) q_int)) q_str) (q_strc n_str (q_ix (qv 0) q_int))))))
theorem sc_law_part : FnScope ["term", "barred"] ["term", "barred"] (defScope st_law_part) := ⟨rfl, rfl, rfl, by decide +kernel, rfl, by decide +kernel, by decide +kernel⟩
theorem by_law_part {n : Nat} {rec : List D → O}   (hnm : G.nm = nmW) (c_law_write : CallOk P w G.K mg base "_law_write" n (spec0 G 0 1 rec)) (hlv : 1 ≤ n) : Body0 P w G mg base n ["term", "barred"] ["term", "barred"] "_law_part" st_law_part sc_law_part (bd_law_part rec) := by
  obtain ⟨K, cl, nm⟩ := G
  cases hnm
  intro Pn f cdv A outer s H E hr
  exact (qs_cons (qs_if (qt_in (q_ix (qv 0) q_int) (qv 1)) (qs_one (qs_ret (q_add (q_add q_str (q_fr (q_callO c_law_write (by show n ≤ n; omega) (qa_cons (qv 0) qa_nil)))) q_str))) qs_nil)
  (qs_one (qs_ret (q_fr (q_callO c_law_write (by show n ≤ n; omega) (qa_cons (qv 0) qa_nil))))))
theorem sc_law_write : FnScope ["term"] ["term"] (defScope st_law_write) := ⟨rfl, rfl, rfl, by decide +kernel, rfl, by decide +kernel, by decide +kernel⟩
theorem by_law_write {n : Nat} {rec : List D → O}   (hnm : G.nm = nmW) (c_law_text : CallOk P w G.K mg base "_law_text" 1 (spec0 G 0 1 fn_law_text)) (c_law_write : CallOk P w G.K mg base "_law_write" n (spec0 G 0 1 rec)) (c_law_part : CallOk P w G.K mg base "_law_part" (n + 1) (spec0 G 0 2 (fn_law_part rec))) (hlv : 1 ≤ n) : Body0 P w G mg base (n + 1) ["term"] ["term"] "_law_write" st_law_write sc_law_write (bd_law_write rec) := by
  obtain ⟨K, cl, nm⟩ := G
  cases hnm
  intro Pn f cdv A outer s H E hr
  exact (qs_cons (qs_if (qt_eq (q_ix (qv 0) q_int) q_str) (qs_one (qs_ret (q_fr (q_callO c_law_text (by show 1 ≤ n + 1; omega) (qa_cons (q_ix (qv 0) q_int) qa_nil))))) qs_nil)
  (qs_cons (qs_if (qt_eq (q_ix (qv 0) q_int) q_str) (qs_one (qs_ret (q_ix (qv 0) q_int))) qs_nil)
  (qs_cons (qs_if (qt_eq (q_ix (qv 0) q_int) q_str) (qs_one (qs_ret (q_add (q_add (q_fr (q_callO c_law_write (by show n ≤ n + 1; omega) (qa_cons (q_ix (qv 0) q_int) qa_nil))) q_str) (q_fr (q_callO c_law_part (by show (n + 1) ≤ n + 1; omega) (qa_cons (q_ix (qv 0) q_int) (qa_cons (q_fr (q_lst (qa_cons q_str qa_nil))) qa_nil))))))) qs_nil)
  (qs_cons (qs_if (qt_eq (q_ix (qv 0) q_int) q_str) (qs_one (qs_ret (q_add (q_add (q_fr (q_callO c_law_part (by show (n + 1) ≤ n + 1; omega) (qa_cons (q_ix (qv 0) q_int) (qa_cons (q_fr (q_lst (qa_cons q_str qa_nil))) qa_nil)))) q_str) (q_fr (q_callO c_law_part (by show (n + 1) ≤ n + 1; omega) (qa_cons (q_ix (qv 0) q_int) (qa_cons (q_fr (q_lst (qa_cons q_str (qa_cons q_str qa_nil)))) qa_nil))))))) qs_nil)
  (qs_one (qs_ret (q_add (q_fr (q_callO c_law_part (by show (n + 1) ≤ n + 1; omega) (qa_cons (q_ix (qv 0) q_int) (qa_cons (q_fr (q_lst (qa_cons q_str (qa_cons q_str qa_nil)))) qa_nil)))) q_str)))))))
theorem sc_law : FnScope ["script", "feed", "held", "k", "term", "turn", "one", "said"] ["script"] (defScope st_law) := ⟨rfl, rfl, rfl, by decide +kernel, rfl, by decide +kernel, by decide +kernel⟩
theorem by_law   (hnm : G.nm = nmW) (c_law_feed : CallOk P w G.K mg base "_law_feed" 1 (spec0 G 1 1 fn_law_feed)) (n_range : mg "range" = none) (c_law_term : CallOk P w G.K mg base "_law_term" 5 (spec1 G 0 1 1 fn_law_term)) (c_law_made : CallOk P w G.K mg base "_law_made" 63 (spec0 G 0 1 (fn_law_made 60))) (c_law_write : CallOk P w G.K mg base "_law_write" 121 (spec0 G 0 1 (fn_law_write 60))) (c_write_sum : CallOk P w G.K mg base "write_sum" 121 (spec0 G 0 1 (fn_write_sum 60))) (n_isinstance : mg "isinstance" = none) (n_str : mg "str" = none) (c_law_same_term : CallOk P w G.K mg base "_law_same_term" 3 (spec0 G 0 2 fn_law_same_term)) : Body0 P w G mg base 121 ["script", "feed", "held", "k", "term", "turn", "one", "said"] ["script"] "law" st_law sc_law bd_law := by
  obtain ⟨K, cl, nm⟩ := G
  cases hnm
  intro Pn f cdv A outer s H E hr
  exact (qs_cons (qs_setO 1 (q_callO c_law_feed (by show 1 ≤ 121; decide) (qa_cons (qv 0) qa_nil)))
  (qs_cons (qs_setO 2 (q_lst qa_nil))
  (qs_cons (qs_for (qi_rg1 n_range q_int) (qg_name 3) (qs_cons (qs_set 4 (q_fr (q_callO1 1 c_law_term (by show 5 ≤ 121; decide) qa_nil)))
  (qs_one (qs_expr (q_append 2 (q_fr (q_lst (qa_cons (qv 4) (qa_cons (q_fr (q_callO c_law_made (by show 63 ≤ 121; decide) (qa_cons (qv 4) qa_nil))) (qa_cons (q_fr (q_callO c_law_write (by show 121 ≤ 121; decide) (qa_cons (qv 4) qa_nil))) qa_nil))))))))))
  (qs_frz 2 (qs_cons (qs_for (qi_rg1 n_range q_int) (qg_name 5) (qs_one (qs_for (qi_list (qv 2)) (qg_name 6) (qs_cons (qs_set 7 (q_fr (q_callO c_write_sum (by show 121 ≤ 121; decide) (qa_cons (q_ix (qv 6) q_int) qa_nil))))
  (qs_cons (qs_if (qt_w (qw_or (qt_not (qt_val (q_isT ty_str (by decide +kernel) n_isinstance n_str (qv 7)))) (qw_or1 (qt_ne (qv 7) (q_ix (qv 6) q_int))))) (qs_one (qs_ret q_bl)) qs_nil)
  (qs_one (qs_if (qt_ne (q_fr (q_callO c_write_sum (by show 121 ≤ 121; decide) (qa_cons (q_fr (q_callO c_law_made (by show 63 ≤ 121; decide) (qa_cons (q_ix (qv 6) q_int) qa_nil))) qa_nil))) (q_ix (qv 6) q_int)) (qs_one (qs_ret q_bl)) qs_nil)))))))
  (qs_one (qs_ret (q_and (q_fr (q_callO c_law_same_term (by show 3 ≤ 121; decide) (qa_cons (q_ix (q_ix (qv 2) q_int) q_int) (qa_cons (q_ix (q_ix (qv 2) q_int) q_int) qa_nil)))) (q_one (q_fr (q_callO c_law_same_term (by show 3 ≤ 121; decide) (qa_cons (q_ix (q_ix (qv 2) q_int) q_int) (qa_cons (q_ix (q_ix (qv 2) q_int) q_int) qa_nil)))))))))))))
end
structure Fd where
  cells : List Int
  a : Nat
  b : Nat
  c : Nat
def fdD (f : Fd) : D := .lst [.lst (f.cells.map .int), .int f.a, .int f.b, .int f.c]
structure FdOk (f : Fd) : Prop where
  pos : ∀ z ∈ f.cells, 0 ≤ z
  low : f.c < 2147483648
theorem draw_wp {f : Fd} {l : Int} {Q : D → D → Prop} {Z : Nat → D → Prop} (h : FdOk f) (hl : 1 ≤ l) (hb : l < 18446744073709551616) (k : ∀ (r : Int) (f' : Fd), 0 ≤ r → r < l → FdOk f' → Q (.int r) (fdD f')) : (fn_law_draw (fdD f) [.int l]).wpX Q Z := by
  unfold fn_law_draw bd_law_draw
  rw [wp_fn1, show initR1 5 1 (fdD f) [.int l] = [.own true 1 (fdD f), .fro (.int l), .no, .no, .no] from rfl]
  refine wp_cut (fun ρ => ρ = [.own true 1 (fdD f), .fro (.int l), .fro (.lst (f.cells.map .int)), .no, .no]) (by unfold fdD; try simp only [wpS_seq, wpS_next, wpS_if, wpS_ite, wpS_thn, wpS_ret, wpS_retO, wpS_drop, wpS_bad, wpS_nx, wpS_rt, wpS_sbad, wpS_ofO, wpS_frz', wpR_ok, wpR_bad, wpR_bind, wpR_ite, wpO_ok, wpO_bad, wpO_ite, wpO_toR, wpO_toR', wpO_toRO, wpX_ok, wpX_exc, wpX_bad, wpX_ite, wpX_ofD, wpX_noExc, wpO_ofD, wp_toRO1, wpR_noExc,
 sAsg, sAsgO, sOwnSet, sPar, putFro_if, putOwn_if, sto_no, sto_fro, sto_own, frz, dVar, dC, dOp, dUn, dLs, aNil, aCons, dB, asB, dAnd, dOr, dNot, dAndV, dOrV, dNotV, dIfE, dTru, ofB, dFr, dMove, dTup, dLsO, opLst, dSl, pNone, pSome, asI, dOwnIx, ownL, dOwnLen, dOwnSl, dAppend, dPop, dCall0, dCall1, DL.call1, dMeth0, isC, wp_make, List.append_nil, dFld, oFldN, dOwnFld, sOwnFld, sf_00, sf_11, sf_22, sf_33, sf_0, sf_1, sf_2, sf_3, ownI, dCatO, iLst, asL, iRg, asRg, iRg3, asRg3, sFor, sWhile, dComp, wipeR,
 i_add, i_op0, i_op, i_eq, i_ne, s_eq, s_ne, s_add, l_ix, t_ix, l_add, l_cat, i_int, b_int, i_abs, l_len, t_len, r_len, s_len, i_str, i_max, i_min, oNeg, atI_0, atI_1, atI_2, atI_3, atI_m1, ixNL_0, ixNL_1, ixNL_2, ixNL_3,
 get_0, get_1, get_2, get_3, get_4, get_5, get_6, get_7, get_8, get_9, set_0, set_1, set_2, set_3, set_4, set_5, set_6, set_7, set_8, set_9, isT_tup, isT_str, isT_int, isT_bool, isT_lst, isC_ok, Bool.not_true, Bool.not_false, ln_0, ln_1, ln_2, ln_3, ln_4, lm_0, lm_1, lm_2, lm_3, lm_4, lm_5, lm_6, Option.bind_some, Option.bind_none, true_and, and_true, eq_self, ioIs, ite_and, if_true, if_false, ite_true, ite_false, reduceIte, Bool.false_eq_true, reduceCtorEq, decide_eq_true_eq, cdec_eq, cdec_ne, beq_iff_eq, Bool.not_eq_true']) ?_
  rintro _ rfl
  refine wp_cut (fun ρ => ∃ f' s3, FdOk f' ∧ ρ = [.own true 1 (fdD f'), .fro (.int l), .fro (.lst (f.cells.map .int)), s3, .no]) ?_ ?_
  · have hf : ∃ f' s3, FdOk f' ∧ ([.own true 1 (fdD f), .fro (.int l), .fro (.lst (f.cells.map .int)), .no, .no] : Rho) = [.own true 1 (fdD f'), .fro (.int l), .fro (.lst (f.cells.map .int)), s3, .no] := ⟨f, _, h, rfl⟩
    unfold fdD at hf ⊢
    try simp only [wpS_seq, wpS_next, wpS_if, wpS_ite, wpS_thn, wpS_ret, wpS_retO, wpS_drop, wpS_bad, wpS_nx, wpS_rt, wpS_sbad, wpS_ofO, wpS_frz', wpR_ok, wpR_bad, wpR_bind, wpR_ite, wpO_ok, wpO_bad, wpO_ite, wpO_toR, wpO_toR', wpO_toRO, wpX_ok, wpX_exc, wpX_bad, wpX_ite, wpX_ofD, wpX_noExc, wpO_ofD, wp_toRO1, wpR_noExc,
 sAsg, sAsgO, sOwnSet, sPar, putFro_if, putOwn_if, sto_no, sto_fro, sto_own, frz, dVar, dC, dOp, dUn, dLs, aNil, aCons, dB, asB, dAnd, dOr, dNot, dAndV, dOrV, dNotV, dIfE, dTru, ofB, dFr, dMove, dTup, dLsO, opLst, dSl, pNone, pSome, asI, dOwnIx, ownL, dOwnLen, dOwnSl, dAppend, dPop, dCall0, dCall1, DL.call1, dMeth0, isC, wp_make, List.append_nil, dFld, oFldN, dOwnFld, sOwnFld, sf_00, sf_11, sf_22, sf_33, sf_0, sf_1, sf_2, sf_3, ownI, dCatO, iLst, asL, iRg, asRg, iRg3, asRg3, sFor, sWhile, dComp, wipeR,
 i_add, i_op0, i_op, i_eq, i_ne, s_eq, s_ne, s_add, l_ix, t_ix, l_add, l_cat, i_int, b_int, i_abs, l_len, t_len, r_len, s_len, i_str, i_max, i_min, oNeg, atI_0, atI_1, atI_2, atI_3, atI_m1, ixNL_0, ixNL_1, ixNL_2, ixNL_3,
 get_0, get_1, get_2, get_3, get_4, get_5, get_6, get_7, get_8, get_9, set_0, set_1, set_2, set_3, set_4, set_5, set_6, set_7, set_8, set_9, isT_tup, isT_str, isT_int, isT_bool, isT_lst, isC_ok, Bool.not_true, Bool.not_false, ln_0, ln_1, ln_2, ln_3, ln_4, lm_0, lm_1, lm_2, lm_3, lm_4, lm_5, lm_6, Option.bind_some, Option.bind_none, true_and, and_true, eq_self, ioIs, ite_and, if_true, if_false, ite_true, ite_false, reduceIte, Bool.false_eq_true, reduceCtorEq, decide_eq_true_eq, cdec_eq, cdec_ne, beq_iff_eq, Bool.not_eq_true']
    by_cases c1 : (f.b : Int) = 0
    · rw [if_pos c1]
      by_cases c2 : (f.a : Int) < (List.map D.int f.cells).length
      · rw [if_pos c2, atI_of (by omega)]
        have hz : 0 ≤ f.cells[f.a]'(by simpa using c2) := h.pos _ (List.getElem_mem _)
        simp only [List.getElem_map]
        generalize f.cells[f.a]'(by simpa using c2) = cell at hz
        try simp only [wpS_seq, wpS_next, wpS_if, wpS_ite, wpS_thn, wpS_ret, wpS_retO, wpS_drop, wpS_bad, wpS_nx, wpS_rt, wpS_sbad, wpS_ofO, wpS_frz', wpR_ok, wpR_bad, wpR_bind, wpR_ite, wpO_ok, wpO_bad, wpO_ite, wpO_toR, wpO_toR', wpO_toRO, wpX_ok, wpX_exc, wpX_bad, wpX_ite, wpX_ofD, wpX_noExc, wpO_ofD, wp_toRO1, wpR_noExc,
 sAsg, sAsgO, sOwnSet, sPar, putFro_if, putOwn_if, sto_no, sto_fro, sto_own, frz, dVar, dC, dOp, dUn, dLs, aNil, aCons, dB, asB, dAnd, dOr, dNot, dAndV, dOrV, dNotV, dIfE, dTru, ofB, dFr, dMove, dTup, dLsO, opLst, dSl, pNone, pSome, asI, dOwnIx, ownL, dOwnLen, dOwnSl, dAppend, dPop, dCall0, dCall1, DL.call1, dMeth0, isC, wp_make, List.append_nil, dFld, oFldN, dOwnFld, sOwnFld, sf_00, sf_11, sf_22, sf_33, sf_0, sf_1, sf_2, sf_3, ownI, dCatO, iLst, asL, iRg, asRg, iRg3, asRg3, sFor, sWhile, dComp, wipeR,
 i_add, i_op0, i_op, i_eq, i_ne, s_eq, s_ne, s_add, l_ix, t_ix, l_add, l_cat, i_int, b_int, i_abs, l_len, t_len, r_len, s_len, i_str, i_max, i_min, oNeg, atI_0, atI_1, atI_2, atI_3, atI_m1, ixNL_0, ixNL_1, ixNL_2, ixNL_3,
 get_0, get_1, get_2, get_3, get_4, get_5, get_6, get_7, get_8, get_9, set_0, set_1, set_2, set_3, set_4, set_5, set_6, set_7, set_8, set_9, isT_tup, isT_str, isT_int, isT_bool, isT_lst, isC_ok, Bool.not_true, Bool.not_false, ln_0, ln_1, ln_2, ln_3, ln_4, lm_0, lm_1, lm_2, lm_3, lm_4, lm_5, lm_6, Option.bind_some, Option.bind_none, true_and, and_true, eq_self, ioIs, ite_and, if_true, if_false, ite_true, ite_false, reduceIte, Bool.false_eq_true, reduceCtorEq, decide_eq_true_eq, cdec_eq, cdec_ne, beq_iff_eq, Bool.not_eq_true']
        refine ⟨by unfold powOk; rw [cdec_eq]; exact ⟨by decide, by decide, by decide⟩, ?_⟩
        have e18 : (10 : Int) ^ Int.toNat 18 = 1000000000000000000 := by decide
        rw [e18]
        by_cases c3 : (1000000000000000000 : Int) ≤ cell
        · rw [if_pos c3]
          exact ⟨⟨f.cells, f.a + 1, cell.toNat, f.c⟩, _, ⟨h.pos, h.low⟩, by rw [show ((cell.toNat : Nat) : Int) = cell by omega]; rfl⟩
        · rw [if_neg c3]
          have hm := Int.emod_nonneg ((f.c : Int) * 48271 + cell * 69621 + 11) (by decide : (2147483647 : Int) ≠ 0)
          have hm2 := Int.emod_lt_of_pos ((f.c : Int) * 48271 + cell * 69621 + 11) (by decide : (0 : Int) < 2147483647)
          refine ⟨mulOk_of (k := 40) (m := 40) (by have := h.low; omega) (by decide) (by decide) (by decide) (by decide), mulOk_of (k := 64) (m := 40) (by omega) (by decide) (by decide) (by decide) (by decide), by decide, ?_⟩
          rw [Int.fmod_eq_emod_of_nonneg _ (by decide)]
          generalize ((f.c : Int) * 48271 + cell * 69621 + 11) % 2147483647 = m at hm hm2
          exact ⟨⟨f.cells, f.a + 1, f.b, m.toNat⟩, _, ⟨h.pos, by show m.toNat < _; omega⟩, by rw [show ((m.toNat : Nat) : Int) = m by omega]; rfl⟩
      · rw [if_neg c2]; exact hf
    · rw [if_neg c1]; exact hf
  · rintro _ ⟨f', s3, h', rfl⟩
    have hl0 : l ≠ 0 := by omega
    unfold fdD
    try simp only [wpS_seq, wpS_next, wpS_if, wpS_ite, wpS_thn, wpS_ret, wpS_retO, wpS_drop, wpS_bad, wpS_nx, wpS_rt, wpS_sbad, wpS_ofO, wpS_frz', wpR_ok, wpR_bad, wpR_bind, wpR_ite, wpO_ok, wpO_bad, wpO_ite, wpO_toR, wpO_toR', wpO_toRO, wpX_ok, wpX_exc, wpX_bad, wpX_ite, wpX_ofD, wpX_noExc, wpO_ofD, wp_toRO1, wpR_noExc,
 sAsg, sAsgO, sOwnSet, sPar, putFro_if, putOwn_if, sto_no, sto_fro, sto_own, frz, dVar, dC, dOp, dUn, dLs, aNil, aCons, dB, asB, dAnd, dOr, dNot, dAndV, dOrV, dNotV, dIfE, dTru, ofB, dFr, dMove, dTup, dLsO, opLst, dSl, pNone, pSome, asI, dOwnIx, ownL, dOwnLen, dOwnSl, dAppend, dPop, dCall0, dCall1, DL.call1, dMeth0, isC, wp_make, List.append_nil, dFld, oFldN, dOwnFld, sOwnFld, sf_00, sf_11, sf_22, sf_33, sf_0, sf_1, sf_2, sf_3, ownI, dCatO, iLst, asL, iRg, asRg, iRg3, asRg3, sFor, sWhile, dComp, wipeR,
 i_add, i_op0, i_op, i_eq, i_ne, s_eq, s_ne, s_add, l_ix, t_ix, l_add, l_cat, i_int, b_int, i_abs, l_len, t_len, r_len, s_len, i_str, i_max, i_min, oNeg, atI_0, atI_1, atI_2, atI_3, atI_m1, ixNL_0, ixNL_1, ixNL_2, ixNL_3,
 get_0, get_1, get_2, get_3, get_4, get_5, get_6, get_7, get_8, get_9, set_0, set_1, set_2, set_3, set_4, set_5, set_6, set_7, set_8, set_9, isT_tup, isT_str, isT_int, isT_bool, isT_lst, isC_ok, Bool.not_true, Bool.not_false, ln_0, ln_1, ln_2, ln_3, ln_4, lm_0, lm_1, lm_2, lm_3, lm_4, lm_5, lm_6, Option.bind_some, Option.bind_none, true_and, and_true, eq_self, ioIs, ite_and, if_true, if_false, ite_true, ite_false, reduceIte, Bool.false_eq_true, reduceCtorEq, decide_eq_true_eq, cdec_eq, cdec_ne, beq_iff_eq, Bool.not_eq_true']
    have key : ∀ (x : Int) (f2 : Fd), FdOk f2 → Q (.int (x % l)) (fdD f2) := fun x f2 h2 => k _ _ (Int.emod_nonneg _ hl0) (Int.emod_lt_of_pos _ (by omega)) h2
    have l0 : 0 ≤ l := by omega
    simp only [Int.fmod_eq_emod_of_nonneg _ l0, Int.fdiv_eq_ediv_of_nonneg _ l0]
    by_cases c1 : 0 < (f'.b : Int)
    · rw [if_pos c1]
      refine ⟨by simpa using hl0, divOk_lt 64 hl0 (by omega), ?_⟩
      have hq : 0 ≤ (f'.b : Int) / l := Int.ediv_nonneg (by omega) l0
      have := key f'.b ⟨f'.cells, f'.a, ((f'.b : Int) / l).toNat, f'.c⟩ ⟨h'.pos, h'.low⟩
      unfold fdD at this
      rw [show ((((f'.b : Int) / l).toNat : Nat) : Int) = (f'.b : Int) / l by omega] at this
      exact this
    · rw [if_neg c1]
      have hm := Int.emod_nonneg ((f'.c : Int) * 16807 + 12345) (by decide : (2147483629 : Int) ≠ 0)
      have hm2 := Int.emod_lt_of_pos ((f'.c : Int) * 16807 + 12345) (by decide : (0 : Int) < 2147483629)
      rw [Int.fmod_eq_emod_of_nonneg _ (by decide)]
      generalize ((f'.c : Int) * 16807 + 12345) % 2147483629 = m at hm hm2
      refine ⟨mulOk_of (k := 40) (m := 40) (by have := h'.low; omega) (by decide) (by decide) (by decide) (by decide), by decide, mulOk_of (k := 40) (m := 40) (by omega) (by omega) (by decide) (by decide) (by decide), divOk_lt 20 (by decide) (by decide), divOk_lt 20 (by decide) (by decide), hl0, ?_⟩
      have := key ((m * m).fdiv 1024 + m.fdiv 65536) ⟨f'.cells, f'.a, f'.b, m.toNat⟩ ⟨h'.pos, by show m.toNat < _; omega⟩
      unfold fdD at this
      rw [show ((m.toNat : Nat) : Int) = m by omega] at this
      exact this

theorem fd_lst (f : Fd) : ∃ xs, fdD f = .lst xs := ⟨_, rfl⟩
theorem rg_len (n : Nat) : (rgD 0 (n : Int)).length = n := by rw [rgD_length]; omega
theorem rgOk_small {a b : Int} (h1 : 0 ≤ a) (h2 : a < 1000000) (h3 : 0 ≤ b) (h4 : b < 1000000) : rgOk a b = true := by
  unfold rgOk
  rw [cdec_eq]
  exact ⟨by omega, by omega, by omega, by omega, by omega⟩
theorem pow5 (i : Nat) : (100000 : Int) ^ (i + 1) = 100000 ^ i * 100000 := Int.pow_succ _ _
theorem pow5_pos (i : Nat) : (0 : Int) < 100000 ^ i := Int.pow_pos (by decide)
theorem lt17 {x : Int} {i : Nat} (h0 : 0 ≤ x) (h : x < 100000 ^ i) : x.natAbs < 2 ^ (17 * i + 1) := by
  have e : (100000 : Nat) ^ i ≤ (2 ^ 17) ^ i := Nat.pow_le_pow_left (by decide) i
  have e3 : ((100000 : Int)) ^ i = ((100000 ^ i : Nat) : Int) := by simp
  rw [e3] at h
  rw [← Nat.pow_mul] at e
  have e4 : (2 : Nat) ^ (17 * i) ≤ 2 ^ (17 * i + 1) := Nat.pow_le_pow_right (by decide) (by omega)
  generalize (100000 : Nat) ^ i = a at *
  generalize (2 : Nat) ^ (17 * i) = b at *
  generalize (2 : Nat) ^ (17 * i + 1) = c at *
  omega
theorem great_wp {f : Fd} {p : Nat} {Q : D → D → Prop} {Z : Nat → D → Prop} (h : FdOk f) (hp : p ≤ 100) (k : ∀ (r : Int) (f' : Fd), 0 ≤ r → r < 100000 ^ p → FdOk f' → Q (.int r) (fdD f')) : (fn_law_great (fdD f) [.int p]).wpX Q Z := by
  unfold fn_law_great bd_law_great
  rw [wp_fn1, show initR1 4 1 (fdD f) [.int (p : Int)] = [.own true 1 (fdD f), .fro (.int p), .no, .no] from rfl]
  try simp only [wpS_seq, wpS_next, wpS_if, wpS_ite, wpS_thn, wpS_ret, wpS_retO, wpS_drop, wpS_bad, wpS_nx, wpS_rt, wpS_sbad, wpS_ofO, wpS_frz', wpR_ok, wpR_bad, wpR_bind, wpR_ite, wpO_ok, wpO_bad, wpO_ite, wpO_toR, wpO_toR', wpO_toRO, wpX_ok, wpX_exc, wpX_bad, wpX_ite, wpX_ofD, wpX_noExc, wpO_ofD, wp_toRO1, wpR_noExc,
 sAsg, sAsgO, sOwnSet, sPar, putFro_if, putOwn_if, sto_no, sto_fro, sto_own, frz, dVar, dC, dOp, dUn, dLs, aNil, aCons, dB, asB, dAnd, dOr, dNot, dAndV, dOrV, dNotV, dIfE, dTru, ofB, dFr, dMove, dTup, dLsO, opLst, dSl, pNone, pSome, asI, dOwnIx, ownL, dOwnLen, dOwnSl, dAppend, dPop, dCall0, dCall1, DL.call1, dMeth0, isC, wp_make, List.append_nil, dFld, oFldN, dOwnFld, sOwnFld, sf_00, sf_11, sf_22, sf_33, sf_0, sf_1, sf_2, sf_3, ownI, dCatO, iLst, asL, iRg, asRg, iRg3, asRg3, sFor, sWhile, dComp, wipeR,
 i_add, i_op0, i_op, i_eq, i_ne, s_eq, s_ne, s_add, l_ix, t_ix, l_add, l_cat, i_int, b_int, i_abs, l_len, t_len, r_len, s_len, i_str, i_max, i_min, oNeg, atI_0, atI_1, atI_2, atI_3, atI_m1, ixNL_0, ixNL_1, ixNL_2, ixNL_3,
 get_0, get_1, get_2, get_3, get_4, get_5, get_6, get_7, get_8, get_9, set_0, set_1, set_2, set_3, set_4, set_5, set_6, set_7, set_8, set_9, isT_tup, isT_str, isT_int, isT_bool, isT_lst, isC_ok, Bool.not_true, Bool.not_false, ln_0, ln_1, ln_2, ln_3, ln_4, lm_0, lm_1, lm_2, lm_3, lm_4, lm_5, lm_6, Option.bind_some, Option.bind_none, true_and, and_true, eq_self, ioIs, ite_and, if_true, if_false, ite_true, ite_false, reduceIte, Bool.false_eq_true, reduceCtorEq, decide_eq_true_eq, cdec_eq, cdec_ne, beq_iff_eq, Bool.not_eq_true', rgOk_small (a := 0) (b := (p : Int)) (by decide) (by decide) (by omega) (by omega)]
  refine wp_for (fun i ρ => ∃ f' r s3, stoOk (some s3) = true ∧ FdOk f' ∧ (0 : Int) ≤ r ∧ r < 100000 ^ i ∧ ρ = [.own true 1 (fdD f'), .fro (.int p), .fro (.int r), s3]) _ 0 _ ⟨f, 0, _, rfl, h, by decide, by decide, rfl⟩ ?_ ?_
  · rintro i x _ hx ⟨f', r, s3, hs3, h', r0, r1, rfl⟩
    obtain ⟨hi, rfl⟩ := rgD_get hx
    refine ⟨_, putFro_ok hs3, ?_⟩
    rw [Nat.zero_add] at r1 ⊢
    try simp only [wpS_seq, wpS_next, wpS_if, wpS_ite, wpS_thn, wpS_ret, wpS_retO, wpS_drop, wpS_bad, wpS_nx, wpS_rt, wpS_sbad, wpS_ofO, wpS_frz', wpR_ok, wpR_bad, wpR_bind, wpR_ite, wpO_ok, wpO_bad, wpO_ite, wpO_toR, wpO_toR', wpO_toRO, wpX_ok, wpX_exc, wpX_bad, wpX_ite, wpX_ofD, wpX_noExc, wpO_ofD, wp_toRO1, wpR_noExc,
 sAsg, sAsgO, sOwnSet, sPar, putFro_if, putOwn_if, sto_no, sto_fro, sto_own, frz, dVar, dC, dOp, dUn, dLs, aNil, aCons, dB, asB, dAnd, dOr, dNot, dAndV, dOrV, dNotV, dIfE, dTru, ofB, dFr, dMove, dTup, dLsO, opLst, dSl, pNone, pSome, asI, dOwnIx, ownL, dOwnLen, dOwnSl, dAppend, dPop, dCall0, dCall1, DL.call1, dMeth0, isC, wp_make, List.append_nil, dFld, oFldN, dOwnFld, sOwnFld, sf_00, sf_11, sf_22, sf_33, sf_0, sf_1, sf_2, sf_3, ownI, dCatO, iLst, asL, iRg, asRg, iRg3, asRg3, sFor, sWhile, dComp, wipeR,
 i_add, i_op0, i_op, i_eq, i_ne, s_eq, s_ne, s_add, l_ix, t_ix, l_add, l_cat, i_int, b_int, i_abs, l_len, t_len, r_len, s_len, i_str, i_max, i_min, oNeg, atI_0, atI_1, atI_2, atI_3, atI_m1, ixNL_0, ixNL_1, ixNL_2, ixNL_3,
 get_0, get_1, get_2, get_3, get_4, get_5, get_6, get_7, get_8, get_9, set_0, set_1, set_2, set_3, set_4, set_5, set_6, set_7, set_8, set_9, isT_tup, isT_str, isT_int, isT_bool, isT_lst, isC_ok, Bool.not_true, Bool.not_false, ln_0, ln_1, ln_2, ln_3, ln_4, lm_0, lm_1, lm_2, lm_3, lm_4, lm_5, lm_6, Option.bind_some, Option.bind_none, true_and, and_true, eq_self, ioIs, ite_and, if_true, if_false, ite_true, ite_false, reduceIte, Bool.false_eq_true, reduceCtorEq, decide_eq_true_eq, cdec_eq, cdec_ne, beq_iff_eq, Bool.not_eq_true']
    refine ⟨mulOk_of (k := 17 * i + 1) (m := 20) (lt17 r0 r1) (by decide) (by omega) (by decide) (by omega), ?_⟩
    refine draw_wp h' (by decide) (by decide) fun z f2 z0 z1 h2 => ?_
    try simp only [wpS_seq, wpS_next, wpS_if, wpS_ite, wpS_thn, wpS_ret, wpS_retO, wpS_drop, wpS_bad, wpS_nx, wpS_rt, wpS_sbad, wpS_ofO, wpS_frz', wpR_ok, wpR_bad, wpR_bind, wpR_ite, wpO_ok, wpO_bad, wpO_ite, wpO_toR, wpO_toR', wpO_toRO, wpX_ok, wpX_exc, wpX_bad, wpX_ite, wpX_ofD, wpX_noExc, wpO_ofD, wp_toRO1, wpR_noExc,
 sAsg, sAsgO, sOwnSet, sPar, putFro_if, putOwn_if, sto_no, sto_fro, sto_own, frz, dVar, dC, dOp, dUn, dLs, aNil, aCons, dB, asB, dAnd, dOr, dNot, dAndV, dOrV, dNotV, dIfE, dTru, ofB, dFr, dMove, dTup, dLsO, opLst, dSl, pNone, pSome, asI, dOwnIx, ownL, dOwnLen, dOwnSl, dAppend, dPop, dCall0, dCall1, DL.call1, dMeth0, isC, wp_make, List.append_nil, dFld, oFldN, dOwnFld, sOwnFld, sf_00, sf_11, sf_22, sf_33, sf_0, sf_1, sf_2, sf_3, ownI, dCatO, iLst, asL, iRg, asRg, iRg3, asRg3, sFor, sWhile, dComp, wipeR,
 i_add, i_op0, i_op, i_eq, i_ne, s_eq, s_ne, s_add, l_ix, t_ix, l_add, l_cat, i_int, b_int, i_abs, l_len, t_len, r_len, s_len, i_str, i_max, i_min, oNeg, atI_0, atI_1, atI_2, atI_3, atI_m1, ixNL_0, ixNL_1, ixNL_2, ixNL_3,
 get_0, get_1, get_2, get_3, get_4, get_5, get_6, get_7, get_8, get_9, set_0, set_1, set_2, set_3, set_4, set_5, set_6, set_7, set_8, set_9, isT_tup, isT_str, isT_int, isT_bool, isT_lst, isC_ok, Bool.not_true, Bool.not_false, ln_0, ln_1, ln_2, ln_3, ln_4, lm_0, lm_1, lm_2, lm_3, lm_4, lm_5, lm_6, Option.bind_some, Option.bind_none, true_and, and_true, eq_self, ioIs, ite_and, if_true, if_false, ite_true, ite_false, reduceIte, Bool.false_eq_true, reduceCtorEq, decide_eq_true_eq, cdec_eq, cdec_ne, beq_iff_eq, Bool.not_eq_true']
    refine ⟨f2, _, _, rfl, h2, ?_, ?_, rfl⟩
    · omega
    · rw [pow5]; omega
  · rintro _ ⟨f', r, s3, hs3, h', r0, r1, rfl⟩
    try simp only [wpS_seq, wpS_next, wpS_if, wpS_ite, wpS_thn, wpS_ret, wpS_retO, wpS_drop, wpS_bad, wpS_nx, wpS_rt, wpS_sbad, wpS_ofO, wpS_frz', wpR_ok, wpR_bad, wpR_bind, wpR_ite, wpO_ok, wpO_bad, wpO_ite, wpO_toR, wpO_toR', wpO_toRO, wpX_ok, wpX_exc, wpX_bad, wpX_ite, wpX_ofD, wpX_noExc, wpO_ofD, wp_toRO1, wpR_noExc,
 sAsg, sAsgO, sOwnSet, sPar, putFro_if, putOwn_if, sto_no, sto_fro, sto_own, frz, dVar, dC, dOp, dUn, dLs, aNil, aCons, dB, asB, dAnd, dOr, dNot, dAndV, dOrV, dNotV, dIfE, dTru, ofB, dFr, dMove, dTup, dLsO, opLst, dSl, pNone, pSome, asI, dOwnIx, ownL, dOwnLen, dOwnSl, dAppend, dPop, dCall0, dCall1, DL.call1, dMeth0, isC, wp_make, List.append_nil, dFld, oFldN, dOwnFld, sOwnFld, sf_00, sf_11, sf_22, sf_33, sf_0, sf_1, sf_2, sf_3, ownI, dCatO, iLst, asL, iRg, asRg, iRg3, asRg3, sFor, sWhile, dComp, wipeR,
 i_add, i_op0, i_op, i_eq, i_ne, s_eq, s_ne, s_add, l_ix, t_ix, l_add, l_cat, i_int, b_int, i_abs, l_len, t_len, r_len, s_len, i_str, i_max, i_min, oNeg, atI_0, atI_1, atI_2, atI_3, atI_m1, ixNL_0, ixNL_1, ixNL_2, ixNL_3,
 get_0, get_1, get_2, get_3, get_4, get_5, get_6, get_7, get_8, get_9, set_0, set_1, set_2, set_3, set_4, set_5, set_6, set_7, set_8, set_9, isT_tup, isT_str, isT_int, isT_bool, isT_lst, isC_ok, Bool.not_true, Bool.not_false, ln_0, ln_1, ln_2, ln_3, ln_4, lm_0, lm_1, lm_2, lm_3, lm_4, lm_5, lm_6, Option.bind_some, Option.bind_none, true_and, and_true, eq_self, ioIs, ite_and, if_true, if_false, ite_true, ite_false, reduceIte, Bool.false_eq_true, reduceCtorEq, decide_eq_true_eq, cdec_eq, cdec_ne, beq_iff_eq, Bool.not_eq_true']
    rw [rgD_length, show 0 + ((p : Int) - 0).toNat = p by omega] at r1
    exact k r f' r0 r1 h'
/-! fractions in lowest terms -/
def gs (a b : Int) : Int := if b < 0 then -(Int.gcd a b : Int) else (Int.gcd a b : Int)
def pa (a b : Int) : Int := a / gs a b
def pb (a b : Int) : Int := b / gs a b
theorem iabs (a : Int) : (if a < 0 then -a else a) = (a.natAbs : Int) := by split <;> omega
theorem gcd_pos {a b : Int} (h : b ≠ 0) : 0 < Int.gcd a b := Int.gcd_pos_of_ne_zero_right _ h
theorem gs_ne {a b : Int} (h : b ≠ 0) : gs a b ≠ 0 := by
  have := gcd_pos (a := a) h
  unfold gs; split <;> omega
theorem gs_dl (a b : Int) : gs a b ∣ a := by
  unfold gs; split
  · rw [Int.neg_dvd]; exact Int.gcd_dvd_left ..
  · exact Int.gcd_dvd_left ..
theorem gs_dr (a b : Int) : gs a b ∣ b := by
  unfold gs; split
  · rw [Int.neg_dvd]; exact Int.gcd_dvd_right ..
  · exact Int.gcd_dvd_right ..
theorem gs_abs (a b : Int) : (gs a b).natAbs = Int.gcd a b := by unfold gs; split <;> omega
theorem gs_le {a b : Int} (h : b ≠ 0) : (gs a b).natAbs ≤ b.natAbs := by
  rw [gs_abs]
  exact Nat.gcd_le_right _ (by omega)
theorem pb_pos {a b : Int} (h : b ≠ 0) : 0 < pb a b := by
  have e := Int.ediv_mul_cancel (gs_dr a b)
  have g := gcd_pos (a := a) h
  show 0 < b / gs a b
  generalize b / gs a b = q at e
  unfold gs at e
  by_cases c : b < 0
  · rw [if_pos c] at e
    rcases Int.lt_trichotomy q 0 with z | z | z
    · have := Int.mul_pos_of_neg_of_neg z (show -(Int.gcd a b : Int) < 0 by omega); omega
    · rw [z] at e; omega
    · exact z
  · rw [if_neg c] at e
    rcases Int.lt_trichotomy q 0 with z | z | z
    · have := Int.mul_neg_of_neg_of_pos z (show (0 : Int) < (Int.gcd a b : Int) by omega); omega
    · rw [z] at e; omega
    · exact z
theorem pq_gcd {a b : Int} (h : b ≠ 0) : Int.gcd (pa a b) (pb a b) = 1 := by
  have g := gcd_pos (a := a) h
  have e := Int.gcd_ediv_gcd_ediv_gcd (i := a) (j := b) g
  unfold pa pb gs
  split
  · rw [Int.ediv_neg, Int.ediv_neg, Int.gcd_neg, Int.neg_gcd]; exact e
  · exact e
theorem natAbs_div_le (a b : Int) : (a / b).natAbs ≤ a.natAbs := by
  exact Int.natAbs_ediv_le_natAbs a b
theorem pa_le (a b : Int) : (pa a b).natAbs ≤ a.natAbs := natAbs_div_le _ _
theorem pb_le (a b : Int) : (pb a b).natAbs ≤ b.natAbs := natAbs_div_le _ _
/-- in lowest terms already -/
theorem pa_id {a b : Int} (h : 0 < b) (g : Int.gcd a b = 1) : pa a b = a ∧ pb a b = b := by
  unfold pa pb gs
  rw [if_neg (by omega), g]
  simp
theorem pair_wp {a b : Int} {k : Nat} {Q : D → Prop} {Z : Nat → D → Prop} (h0 : b ≠ 0) (h : b.natAbs < 2 ^ k) (hk : 0 < k) (hk2 : k ≤ 9000) (q : Q (.tup [.int (pa a b), .int (pb a b)])) : (fn_law_pair [.int a, .int b]).wpX Q Z := by
  unfold fn_law_pair bd_law_pair
  rw [wp_fn0, show initR 4 [.int a, .int b] = [.fro (.int a), .fro (.int b), .no, .no] from rfl]
  refine wp_cut (fun ρ => ρ = [.fro (.int a), .fro (.int b), .fro (.int a.natAbs), .no]) (by try simp only [wpS_seq, wpS_next, wpS_if, wpS_ite, wpS_thn, wpS_ret, wpS_retO, wpS_drop, wpS_bad, wpS_nx, wpS_rt, wpS_sbad, wpS_ofO, wpS_frz', wpR_ok, wpR_bad, wpR_bind, wpR_ite, wpO_ok, wpO_bad, wpO_ite, wpO_toR, wpO_toR', wpO_toRO, wpX_ok, wpX_exc, wpX_bad, wpX_ite, wpX_ofD, wpX_noExc, wpO_ofD, wp_toRO1, wpR_noExc,
 sAsg, sAsgO, sOwnSet, sPar, putFro_if, putOwn_if, sto_no, sto_fro, sto_own, frz, dVar, dC, dOp, dUn, dLs, aNil, aCons, dB, asB, dAnd, dOr, dNot, dAndV, dOrV, dNotV, dIfE, dTru, ofB, dFr, dMove, dTup, dLsO, opLst, dSl, pNone, pSome, asI, dOwnIx, ownL, dOwnLen, dOwnSl, dAppend, dPop, dCall0, dCall1, DL.call1, dMeth0, isC, wp_make, List.append_nil, dFld, oFldN, dOwnFld, sOwnFld, sf_00, sf_11, sf_22, sf_33, sf_0, sf_1, sf_2, sf_3, ownI, dCatO, iLst, asL, iRg, asRg, iRg3, asRg3, sFor, sWhile, dComp, wipeR,
 i_add, i_op0, i_op, i_eq, i_ne, s_eq, s_ne, s_add, l_ix, t_ix, l_add, l_cat, i_int, b_int, i_abs, l_len, t_len, r_len, s_len, i_str, i_max, i_min, oNeg, atI_0, atI_1, atI_2, atI_3, atI_m1, ixNL_0, ixNL_1, ixNL_2, ixNL_3,
 get_0, get_1, get_2, get_3, get_4, get_5, get_6, get_7, get_8, get_9, set_0, set_1, set_2, set_3, set_4, set_5, set_6, set_7, set_8, set_9, isT_tup, isT_str, isT_int, isT_bool, isT_lst, isC_ok, Bool.not_true, Bool.not_false, ln_0, ln_1, ln_2, ln_3, ln_4, lm_0, lm_1, lm_2, lm_3, lm_4, lm_5, lm_6, Option.bind_some, Option.bind_none, true_and, and_true, eq_self, ioIs, ite_and, if_true, if_false, ite_true, ite_false, reduceIte, Bool.false_eq_true, reduceCtorEq, decide_eq_true_eq, cdec_eq, cdec_ne, beq_iff_eq, Bool.not_eq_true', iabs]) ?_
  rintro _ rfl
  refine wp_cut (fun ρ => ρ = [.fro (.int a), .fro (.int b), .fro (.int a.natAbs), .fro (.int b.natAbs)]) (by try simp only [wpS_seq, wpS_next, wpS_if, wpS_ite, wpS_thn, wpS_ret, wpS_retO, wpS_drop, wpS_bad, wpS_nx, wpS_rt, wpS_sbad, wpS_ofO, wpS_frz', wpR_ok, wpR_bad, wpR_bind, wpR_ite, wpO_ok, wpO_bad, wpO_ite, wpO_toR, wpO_toR', wpO_toRO, wpX_ok, wpX_exc, wpX_bad, wpX_ite, wpX_ofD, wpX_noExc, wpO_ofD, wp_toRO1, wpR_noExc,
 sAsg, sAsgO, sOwnSet, sPar, putFro_if, putOwn_if, sto_no, sto_fro, sto_own, frz, dVar, dC, dOp, dUn, dLs, aNil, aCons, dB, asB, dAnd, dOr, dNot, dAndV, dOrV, dNotV, dIfE, dTru, ofB, dFr, dMove, dTup, dLsO, opLst, dSl, pNone, pSome, asI, dOwnIx, ownL, dOwnLen, dOwnSl, dAppend, dPop, dCall0, dCall1, DL.call1, dMeth0, isC, wp_make, List.append_nil, dFld, oFldN, dOwnFld, sOwnFld, sf_00, sf_11, sf_22, sf_33, sf_0, sf_1, sf_2, sf_3, ownI, dCatO, iLst, asL, iRg, asRg, iRg3, asRg3, sFor, sWhile, dComp, wipeR,
 i_add, i_op0, i_op, i_eq, i_ne, s_eq, s_ne, s_add, l_ix, t_ix, l_add, l_cat, i_int, b_int, i_abs, l_len, t_len, r_len, s_len, i_str, i_max, i_min, oNeg, atI_0, atI_1, atI_2, atI_3, atI_m1, ixNL_0, ixNL_1, ixNL_2, ixNL_3,
 get_0, get_1, get_2, get_3, get_4, get_5, get_6, get_7, get_8, get_9, set_0, set_1, set_2, set_3, set_4, set_5, set_6, set_7, set_8, set_9, isT_tup, isT_str, isT_int, isT_bool, isT_lst, isC_ok, Bool.not_true, Bool.not_false, ln_0, ln_1, ln_2, ln_3, ln_4, lm_0, lm_1, lm_2, lm_3, lm_4, lm_5, lm_6, Option.bind_some, Option.bind_none, true_and, and_true, eq_self, ioIs, ite_and, if_true, if_false, ite_true, ite_false, reduceIte, Bool.false_eq_true, reduceCtorEq, decide_eq_true_eq, cdec_eq, cdec_ne, beq_iff_eq, Bool.not_eq_true', iabs]) ?_
  rintro _ rfl
  refine wp_cut (fun ρ => ρ = [.fro (.int a), .fro (.int b), .fro (.int (Int.gcd a b)), .fro (.int 0)]) ?_ ?_
  · try simp only [wpS_seq, wpS_next, wpS_if, wpS_ite, wpS_thn, wpS_ret, wpS_retO, wpS_drop, wpS_bad, wpS_nx, wpS_rt, wpS_sbad, wpS_ofO, wpS_frz', wpR_ok, wpR_bad, wpR_bind, wpR_ite, wpO_ok, wpO_bad, wpO_ite, wpO_toR, wpO_toR', wpO_toRO, wpX_ok, wpX_exc, wpX_bad, wpX_ite, wpX_ofD, wpX_noExc, wpO_ofD, wp_toRO1, wpR_noExc,
 sAsg, sAsgO, sOwnSet, sPar, putFro_if, putOwn_if, sto_no, sto_fro, sto_own, frz, dVar, dC, dOp, dUn, dLs, aNil, aCons, dB, asB, dAnd, dOr, dNot, dAndV, dOrV, dNotV, dIfE, dTru, ofB, dFr, dMove, dTup, dLsO, opLst, dSl, pNone, pSome, asI, dOwnIx, ownL, dOwnLen, dOwnSl, dAppend, dPop, dCall0, dCall1, DL.call1, dMeth0, isC, wp_make, List.append_nil, dFld, oFldN, dOwnFld, sOwnFld, sf_00, sf_11, sf_22, sf_33, sf_0, sf_1, sf_2, sf_3, ownI, dCatO, iLst, asL, iRg, asRg, iRg3, asRg3, sFor, sWhile, dComp, wipeR,
 i_add, i_op0, i_op, i_eq, i_ne, s_eq, s_ne, s_add, l_ix, t_ix, l_add, l_cat, i_int, b_int, i_abs, l_len, t_len, r_len, s_len, i_str, i_max, i_min, oNeg, atI_0, atI_1, atI_2, atI_3, atI_m1, ixNL_0, ixNL_1, ixNL_2, ixNL_3,
 get_0, get_1, get_2, get_3, get_4, get_5, get_6, get_7, get_8, get_9, set_0, set_1, set_2, set_3, set_4, set_5, set_6, set_7, set_8, set_9, isT_tup, isT_str, isT_int, isT_bool, isT_lst, isC_ok, Bool.not_true, Bool.not_false, ln_0, ln_1, ln_2, ln_3, ln_4, lm_0, lm_1, lm_2, lm_3, lm_4, lm_5, lm_6, Option.bind_some, Option.bind_none, true_and, and_true, eq_self, ioIs, ite_and, if_true, if_false, ite_true, ite_false, reduceIte, Bool.false_eq_true, reduceCtorEq, decide_eq_true_eq, cdec_eq, cdec_ne, beq_iff_eq, Bool.not_eq_true', mInt]
    refine wp_while (fun n ρ => ∃ x y : Nat, Nat.gcd x y = Int.gcd a b ∧ y < n ∧ ρ = [.fro (.int a), .fro (.int b), .fro (.int x), .fro (.int y)]) ?_ _ _ ⟨a.natAbs, b.natAbs, rfl, by omega, rfl⟩
    rintro n _ ⟨x, y, e, hn, rfl⟩
    cases n with
    | zero => omega
    | succ m =>
      refine ⟨m, rfl, ?_⟩
      try simp only [wpS_seq, wpS_next, wpS_if, wpS_ite, wpS_thn, wpS_ret, wpS_retO, wpS_drop, wpS_bad, wpS_nx, wpS_rt, wpS_sbad, wpS_ofO, wpS_frz', wpR_ok, wpR_bad, wpR_bind, wpR_ite, wpO_ok, wpO_bad, wpO_ite, wpO_toR, wpO_toR', wpO_toRO, wpX_ok, wpX_exc, wpX_bad, wpX_ite, wpX_ofD, wpX_noExc, wpO_ofD, wp_toRO1, wpR_noExc,
 sAsg, sAsgO, sOwnSet, sPar, putFro_if, putOwn_if, sto_no, sto_fro, sto_own, frz, dVar, dC, dOp, dUn, dLs, aNil, aCons, dB, asB, dAnd, dOr, dNot, dAndV, dOrV, dNotV, dIfE, dTru, ofB, dFr, dMove, dTup, dLsO, opLst, dSl, pNone, pSome, asI, dOwnIx, ownL, dOwnLen, dOwnSl, dAppend, dPop, dCall0, dCall1, DL.call1, dMeth0, isC, wp_make, List.append_nil, dFld, oFldN, dOwnFld, sOwnFld, sf_00, sf_11, sf_22, sf_33, sf_0, sf_1, sf_2, sf_3, ownI, dCatO, iLst, asL, iRg, asRg, iRg3, asRg3, sFor, sWhile, dComp, wipeR,
 i_add, i_op0, i_op, i_eq, i_ne, s_eq, s_ne, s_add, l_ix, t_ix, l_add, l_cat, i_int, b_int, i_abs, l_len, t_len, r_len, s_len, i_str, i_max, i_min, oNeg, atI_0, atI_1, atI_2, atI_3, atI_m1, ixNL_0, ixNL_1, ixNL_2, ixNL_3,
 get_0, get_1, get_2, get_3, get_4, get_5, get_6, get_7, get_8, get_9, set_0, set_1, set_2, set_3, set_4, set_5, set_6, set_7, set_8, set_9, isT_tup, isT_str, isT_int, isT_bool, isT_lst, isC_ok, Bool.not_true, Bool.not_false, ln_0, ln_1, ln_2, ln_3, ln_4, lm_0, lm_1, lm_2, lm_3, lm_4, lm_5, lm_6, Option.bind_some, Option.bind_none, true_and, and_true, eq_self, ioIs, ite_and, if_true, if_false, ite_true, ite_false, reduceIte, Bool.false_eq_true, reduceCtorEq, decide_eq_true_eq, cdec_eq, cdec_ne, beq_iff_eq, Bool.not_eq_true']
      by_cases c : 0 < (y : Int)
      · rw [if_pos c]
        refine ⟨by omega, ?_⟩
        rw [Int.fmod_eq_emod_of_nonneg _ (by omega), ← Int.natCast_emod]
        have := Nat.mod_lt x (show 0 < y by omega)
        refine ⟨y, x % y, ?_, by omega, rfl⟩
        rw [← e, Nat.gcd_comm x y, Nat.gcd_rec y x, Nat.gcd_comm]
      · rw [if_neg c]
        have hy : y = 0 := by omega
        subst hy
        rw [Nat.gcd_zero_right] at e
        rw [e]; rfl
  · rintro _ rfl
    refine wp_cut (fun ρ => ρ = [.fro (.int a), .fro (.int b), .fro (.int (gs a b)), .fro (.int 0)]) ?_ ?_
    · try simp only [wpS_seq, wpS_next, wpS_if, wpS_ite, wpS_thn, wpS_ret, wpS_retO, wpS_drop, wpS_bad, wpS_nx, wpS_rt, wpS_sbad, wpS_ofO, wpS_frz', wpR_ok, wpR_bad, wpR_bind, wpR_ite, wpO_ok, wpO_bad, wpO_ite, wpO_toR, wpO_toR', wpO_toRO, wpX_ok, wpX_exc, wpX_bad, wpX_ite, wpX_ofD, wpX_noExc, wpO_ofD, wp_toRO1, wpR_noExc,
 sAsg, sAsgO, sOwnSet, sPar, putFro_if, putOwn_if, sto_no, sto_fro, sto_own, frz, dVar, dC, dOp, dUn, dLs, aNil, aCons, dB, asB, dAnd, dOr, dNot, dAndV, dOrV, dNotV, dIfE, dTru, ofB, dFr, dMove, dTup, dLsO, opLst, dSl, pNone, pSome, asI, dOwnIx, ownL, dOwnLen, dOwnSl, dAppend, dPop, dCall0, dCall1, DL.call1, dMeth0, isC, wp_make, List.append_nil, dFld, oFldN, dOwnFld, sOwnFld, sf_00, sf_11, sf_22, sf_33, sf_0, sf_1, sf_2, sf_3, ownI, dCatO, iLst, asL, iRg, asRg, iRg3, asRg3, sFor, sWhile, dComp, wipeR,
 i_add, i_op0, i_op, i_eq, i_ne, s_eq, s_ne, s_add, l_ix, t_ix, l_add, l_cat, i_int, b_int, i_abs, l_len, t_len, r_len, s_len, i_str, i_max, i_min, oNeg, atI_0, atI_1, atI_2, atI_3, atI_m1, ixNL_0, ixNL_1, ixNL_2, ixNL_3,
 get_0, get_1, get_2, get_3, get_4, get_5, get_6, get_7, get_8, get_9, set_0, set_1, set_2, set_3, set_4, set_5, set_6, set_7, set_8, set_9, isT_tup, isT_str, isT_int, isT_bool, isT_lst, isC_ok, Bool.not_true, Bool.not_false, ln_0, ln_1, ln_2, ln_3, ln_4, lm_0, lm_1, lm_2, lm_3, lm_4, lm_5, lm_6, Option.bind_some, Option.bind_none, true_and, and_true, eq_self, ioIs, ite_and, if_true, if_false, ite_true, ite_false, reduceIte, Bool.false_eq_true, reduceCtorEq, decide_eq_true_eq, cdec_eq, cdec_ne, beq_iff_eq, Bool.not_eq_true']
      unfold gs
      by_cases c : b < 0
      · rw [if_pos c, if_pos c, show (0 : Int) - (Int.gcd a b : Int) = -(Int.gcd a b : Int) by omega]
      · rw [if_neg c, if_neg c]
    · rintro _ rfl
      have d : ∀ i : Int, divOk i (gs a b) = true := fun i => divOk_lt k (gs_ne h0) (Nat.lt_of_le_of_lt (gs_le h0) h) hk hk2
      try simp only [wpS_seq, wpS_next, wpS_if, wpS_ite, wpS_thn, wpS_ret, wpS_retO, wpS_drop, wpS_bad, wpS_nx, wpS_rt, wpS_sbad, wpS_ofO, wpS_frz', wpR_ok, wpR_bad, wpR_bind, wpR_ite, wpO_ok, wpO_bad, wpO_ite, wpO_toR, wpO_toR', wpO_toRO, wpX_ok, wpX_exc, wpX_bad, wpX_ite, wpX_ofD, wpX_noExc, wpO_ofD, wp_toRO1, wpR_noExc,
 sAsg, sAsgO, sOwnSet, sPar, putFro_if, putOwn_if, sto_no, sto_fro, sto_own, frz, dVar, dC, dOp, dUn, dLs, aNil, aCons, dB, asB, dAnd, dOr, dNot, dAndV, dOrV, dNotV, dIfE, dTru, ofB, dFr, dMove, dTup, dLsO, opLst, dSl, pNone, pSome, asI, dOwnIx, ownL, dOwnLen, dOwnSl, dAppend, dPop, dCall0, dCall1, DL.call1, dMeth0, isC, wp_make, List.append_nil, dFld, oFldN, dOwnFld, sOwnFld, sf_00, sf_11, sf_22, sf_33, sf_0, sf_1, sf_2, sf_3, ownI, dCatO, iLst, asL, iRg, asRg, iRg3, asRg3, sFor, sWhile, dComp, wipeR,
 i_add, i_op0, i_op, i_eq, i_ne, s_eq, s_ne, s_add, l_ix, t_ix, l_add, l_cat, i_int, b_int, i_abs, l_len, t_len, r_len, s_len, i_str, i_max, i_min, oNeg, atI_0, atI_1, atI_2, atI_3, atI_m1, ixNL_0, ixNL_1, ixNL_2, ixNL_3,
 get_0, get_1, get_2, get_3, get_4, get_5, get_6, get_7, get_8, get_9, set_0, set_1, set_2, set_3, set_4, set_5, set_6, set_7, set_8, set_9, isT_tup, isT_str, isT_int, isT_bool, isT_lst, isC_ok, Bool.not_true, Bool.not_false, ln_0, ln_1, ln_2, ln_3, ln_4, lm_0, lm_1, lm_2, lm_3, lm_4, lm_5, lm_6, Option.bind_some, Option.bind_none, true_and, and_true, eq_self, ioIs, ite_and, if_true, if_false, ite_true, ite_false, reduceIte, Bool.false_eq_true, reduceCtorEq, decide_eq_true_eq, cdec_eq, cdec_ne, beq_iff_eq, Bool.not_eq_true']
      refine ⟨d _, d _, ?_⟩
      rw [Int.fdiv_eq_ediv_of_dvd (gs_dl a b), Int.fdiv_eq_ediv_of_dvd (gs_dr a b)]
      exact q
/-! the program's Ratio -/
theorem shared_wp {x y : Nat} {Q : D → Prop} {Z : Nat → D → Prop} (q : Q (.int (Nat.gcd x y))) : (fn_shared_part [.int x, .int y]).wpX Q Z := by
  unfold fn_shared_part bd_shared_part
  rw [wp_fn0, show initR 2 [.int (x : Int), .int (y : Int)] = [.fro (.int x), .fro (.int y)] from rfl]
  refine wp_cut (fun ρ => ρ = [.fro (.int (Nat.gcd x y)), .fro (.int 0)]) ?_ ?_
  · try simp only [wpS_seq, wpS_next, wpS_if, wpS_ite, wpS_thn, wpS_ret, wpS_retO, wpS_drop, wpS_bad, wpS_nx, wpS_rt, wpS_sbad, wpS_ofO, wpS_frz', wpR_ok, wpR_bad, wpR_bind, wpR_ite, wpO_ok, wpO_bad, wpO_ite, wpO_toR, wpO_toR', wpO_toRO, wpX_ok, wpX_exc, wpX_bad, wpX_ite, wpX_ofD, wpX_noExc, wpO_ofD, wp_toRO1, wpR_noExc,
 sAsg, sAsgO, sOwnSet, sPar, putFro_if, putOwn_if, sto_no, sto_fro, sto_own, frz, dVar, dC, dOp, dUn, dLs, aNil, aCons, dB, asB, dAnd, dOr, dNot, dAndV, dOrV, dNotV, dIfE, dTru, ofB, dFr, dMove, dTup, dLsO, opLst, dSl, pNone, pSome, asI, dOwnIx, ownL, dOwnLen, dOwnSl, dAppend, dPop, dCall0, dCall1, DL.call1, dMeth0, isC, wp_make, List.append_nil, dFld, oFldN, dOwnFld, sOwnFld, sf_00, sf_11, sf_22, sf_33, sf_0, sf_1, sf_2, sf_3, ownI, dCatO, iLst, asL, iRg, asRg, iRg3, asRg3, sFor, sWhile, dComp, wipeR,
 i_add, i_op0, i_op, i_eq, i_ne, s_eq, s_ne, s_add, l_ix, t_ix, l_add, l_cat, i_int, b_int, i_abs, l_len, t_len, r_len, s_len, i_str, i_max, i_min, oNeg, atI_0, atI_1, atI_2, atI_3, atI_m1, ixNL_0, ixNL_1, ixNL_2, ixNL_3,
 get_0, get_1, get_2, get_3, get_4, get_5, get_6, get_7, get_8, get_9, set_0, set_1, set_2, set_3, set_4, set_5, set_6, set_7, set_8, set_9, isT_tup, isT_str, isT_int, isT_bool, isT_lst, isC_ok, Bool.not_true, Bool.not_false, ln_0, ln_1, ln_2, ln_3, ln_4, lm_0, lm_1, lm_2, lm_3, lm_4, lm_5, lm_6, Option.bind_some, Option.bind_none, true_and, and_true, eq_self, ioIs, ite_and, if_true, if_false, ite_true, ite_false, reduceIte, Bool.false_eq_true, reduceCtorEq, decide_eq_true_eq, cdec_eq, cdec_ne, beq_iff_eq, Bool.not_eq_true', mInt]
    refine wp_while (fun n ρ => ∃ u v : Nat, Nat.gcd u v = Nat.gcd x y ∧ v < n ∧ ρ = [.fro (.int u), .fro (.int v)]) ?_ _ _ ⟨x, y, rfl, by omega, rfl⟩
    rintro n _ ⟨u, v, e, hn, rfl⟩
    cases n with
    | zero => omega
    | succ m =>
      refine ⟨m, rfl, ?_⟩
      try simp only [wpS_seq, wpS_next, wpS_if, wpS_ite, wpS_thn, wpS_ret, wpS_retO, wpS_drop, wpS_bad, wpS_nx, wpS_rt, wpS_sbad, wpS_ofO, wpS_frz', wpR_ok, wpR_bad, wpR_bind, wpR_ite, wpO_ok, wpO_bad, wpO_ite, wpO_toR, wpO_toR', wpO_toRO, wpX_ok, wpX_exc, wpX_bad, wpX_ite, wpX_ofD, wpX_noExc, wpO_ofD, wp_toRO1, wpR_noExc,
 sAsg, sAsgO, sOwnSet, sPar, putFro_if, putOwn_if, sto_no, sto_fro, sto_own, frz, dVar, dC, dOp, dUn, dLs, aNil, aCons, dB, asB, dAnd, dOr, dNot, dAndV, dOrV, dNotV, dIfE, dTru, ofB, dFr, dMove, dTup, dLsO, opLst, dSl, pNone, pSome, asI, dOwnIx, ownL, dOwnLen, dOwnSl, dAppend, dPop, dCall0, dCall1, DL.call1, dMeth0, isC, wp_make, List.append_nil, dFld, oFldN, dOwnFld, sOwnFld, sf_00, sf_11, sf_22, sf_33, sf_0, sf_1, sf_2, sf_3, ownI, dCatO, iLst, asL, iRg, asRg, iRg3, asRg3, sFor, sWhile, dComp, wipeR,
 i_add, i_op0, i_op, i_eq, i_ne, s_eq, s_ne, s_add, l_ix, t_ix, l_add, l_cat, i_int, b_int, i_abs, l_len, t_len, r_len, s_len, i_str, i_max, i_min, oNeg, atI_0, atI_1, atI_2, atI_3, atI_m1, ixNL_0, ixNL_1, ixNL_2, ixNL_3,
 get_0, get_1, get_2, get_3, get_4, get_5, get_6, get_7, get_8, get_9, set_0, set_1, set_2, set_3, set_4, set_5, set_6, set_7, set_8, set_9, isT_tup, isT_str, isT_int, isT_bool, isT_lst, isC_ok, Bool.not_true, Bool.not_false, ln_0, ln_1, ln_2, ln_3, ln_4, lm_0, lm_1, lm_2, lm_3, lm_4, lm_5, lm_6, Option.bind_some, Option.bind_none, true_and, and_true, eq_self, ioIs, ite_and, if_true, if_false, ite_true, ite_false, reduceIte, Bool.false_eq_true, reduceCtorEq, decide_eq_true_eq, cdec_eq, cdec_ne, beq_iff_eq, Bool.not_eq_true']
      by_cases c : (v : Int) = 0
      · have hv : v = 0 := by omega
        subst hv
        rw [Nat.gcd_zero_right] at e
        rw [e]
        simp
      · rw [if_pos (by simpa using c)]
        refine ⟨by simpa using c, ?_⟩
        rw [Int.fmod_eq_emod_of_nonneg _ (by omega), ← Int.natCast_emod]
        have := Nat.mod_lt u (show 0 < v by omega)
        refine ⟨v, u % v, ?_, by omega, rfl⟩
        rw [← e, Nat.gcd_comm u v, Nat.gcd_rec v u, Nat.gcd_comm]
  · rintro _ rfl
    try simp only [wpS_seq, wpS_next, wpS_if, wpS_ite, wpS_thn, wpS_ret, wpS_retO, wpS_drop, wpS_bad, wpS_nx, wpS_rt, wpS_sbad, wpS_ofO, wpS_frz', wpR_ok, wpR_bad, wpR_bind, wpR_ite, wpO_ok, wpO_bad, wpO_ite, wpO_toR, wpO_toR', wpO_toRO, wpX_ok, wpX_exc, wpX_bad, wpX_ite, wpX_ofD, wpX_noExc, wpO_ofD, wp_toRO1, wpR_noExc,
 sAsg, sAsgO, sOwnSet, sPar, putFro_if, putOwn_if, sto_no, sto_fro, sto_own, frz, dVar, dC, dOp, dUn, dLs, aNil, aCons, dB, asB, dAnd, dOr, dNot, dAndV, dOrV, dNotV, dIfE, dTru, ofB, dFr, dMove, dTup, dLsO, opLst, dSl, pNone, pSome, asI, dOwnIx, ownL, dOwnLen, dOwnSl, dAppend, dPop, dCall0, dCall1, DL.call1, dMeth0, isC, wp_make, List.append_nil, dFld, oFldN, dOwnFld, sOwnFld, sf_00, sf_11, sf_22, sf_33, sf_0, sf_1, sf_2, sf_3, ownI, dCatO, iLst, asL, iRg, asRg, iRg3, asRg3, sFor, sWhile, dComp, wipeR,
 i_add, i_op0, i_op, i_eq, i_ne, s_eq, s_ne, s_add, l_ix, t_ix, l_add, l_cat, i_int, b_int, i_abs, l_len, t_len, r_len, s_len, i_str, i_max, i_min, oNeg, atI_0, atI_1, atI_2, atI_3, atI_m1, ixNL_0, ixNL_1, ixNL_2, ixNL_3,
 get_0, get_1, get_2, get_3, get_4, get_5, get_6, get_7, get_8, get_9, set_0, set_1, set_2, set_3, set_4, set_5, set_6, set_7, set_8, set_9, isT_tup, isT_str, isT_int, isT_bool, isT_lst, isC_ok, Bool.not_true, Bool.not_false, ln_0, ln_1, ln_2, ln_3, ln_4, lm_0, lm_1, lm_2, lm_3, lm_4, lm_5, lm_6, Option.bind_some, Option.bind_none, true_and, and_true, eq_self, ioIs, ite_and, if_true, if_false, ite_true, ite_false, reduceIte, Bool.false_eq_true, reduceCtorEq, decide_eq_true_eq, cdec_eq, cdec_ne, beq_iff_eq, Bool.not_eq_true']
    exact q
theorem ratio_wp {a b : Int} {k : Nat} {Q : D → D → Prop} {Z : Nat → D → Prop} (h0 : b ≠ 0) (h : b.natAbs < 2 ^ k) (hk : 0 < k) (hk2 : k ≤ 9000) (q : Q .non (.ins 0 [.int (pa a b), .int (pb a b)])) : (fn_Ratio_init (.ins 0 []) [.int a, .int b]).wpX Q Z := by
  unfold fn_Ratio_init bd_Ratio_init
  rw [wp_fn1, show initR1 4 1 (.ins 0 []) [.int a, .int b] = [.own true 1 (.ins 0 []), .fro (.int a), .fro (.int b), .no] from rfl]
  refine wp_cut (fun ρ => ρ = [.own true 1 (.ins 0 []), .fro (.int a), .fro (.int b), .no]) (by try simp only [wpS_seq, wpS_next, wpS_if, wpS_ite, wpS_thn, wpS_ret, wpS_retO, wpS_drop, wpS_bad, wpS_nx, wpS_rt, wpS_sbad, wpS_ofO, wpS_frz', wpR_ok, wpR_bad, wpR_bind, wpR_ite, wpO_ok, wpO_bad, wpO_ite, wpO_toR, wpO_toR', wpO_toRO, wpX_ok, wpX_exc, wpX_bad, wpX_ite, wpX_ofD, wpX_noExc, wpO_ofD, wp_toRO1, wpR_noExc,
 sAsg, sAsgO, sOwnSet, sPar, putFro_if, putOwn_if, sto_no, sto_fro, sto_own, frz, dVar, dC, dOp, dUn, dLs, aNil, aCons, dB, asB, dAnd, dOr, dNot, dAndV, dOrV, dNotV, dIfE, dTru, ofB, dFr, dMove, dTup, dLsO, opLst, dSl, pNone, pSome, asI, dOwnIx, ownL, dOwnLen, dOwnSl, dAppend, dPop, dCall0, dCall1, DL.call1, dMeth0, isC, wp_make, List.append_nil, dFld, oFldN, dOwnFld, sOwnFld, sf_00, sf_11, sf_22, sf_33, sf_0, sf_1, sf_2, sf_3, ownI, dCatO, iLst, asL, iRg, asRg, iRg3, asRg3, sFor, sWhile, dComp, wipeR,
 i_add, i_op0, i_op, i_eq, i_ne, s_eq, s_ne, s_add, l_ix, t_ix, l_add, l_cat, i_int, b_int, i_abs, l_len, t_len, r_len, s_len, i_str, i_max, i_min, oNeg, atI_0, atI_1, atI_2, atI_3, atI_m1, ixNL_0, ixNL_1, ixNL_2, ixNL_3,
 get_0, get_1, get_2, get_3, get_4, get_5, get_6, get_7, get_8, get_9, set_0, set_1, set_2, set_3, set_4, set_5, set_6, set_7, set_8, set_9, isT_tup, isT_str, isT_int, isT_bool, isT_lst, isC_ok, Bool.not_true, Bool.not_false, ln_0, ln_1, ln_2, ln_3, ln_4, lm_0, lm_1, lm_2, lm_3, lm_4, lm_5, lm_6, Option.bind_some, Option.bind_none, true_and, and_true, eq_self, ioIs, ite_and, if_true, if_false, ite_true, ite_false, reduceIte, Bool.false_eq_true, reduceCtorEq, decide_eq_true_eq, cdec_eq, cdec_ne, beq_iff_eq, Bool.not_eq_true', h0]) ?_
  rintro _ rfl
  refine wp_cut (fun ρ => ∃ a' b' : Int, 0 < b' ∧ b'.natAbs = b.natAbs ∧ a'.natAbs = a.natAbs ∧ pa a b = a' / (Int.gcd a b : Int) ∧ pb a b = b' / (Int.gcd a b : Int) ∧ ρ = [.own true 1 (.ins 0 []), .fro (.int a'), .fro (.int b'), .no]) ?_ ?_
  · try simp only [wpS_seq, wpS_next, wpS_if, wpS_ite, wpS_thn, wpS_ret, wpS_retO, wpS_drop, wpS_bad, wpS_nx, wpS_rt, wpS_sbad, wpS_ofO, wpS_frz', wpR_ok, wpR_bad, wpR_bind, wpR_ite, wpO_ok, wpO_bad, wpO_ite, wpO_toR, wpO_toR', wpO_toRO, wpX_ok, wpX_exc, wpX_bad, wpX_ite, wpX_ofD, wpX_noExc, wpO_ofD, wp_toRO1, wpR_noExc,
 sAsg, sAsgO, sOwnSet, sPar, putFro_if, putOwn_if, sto_no, sto_fro, sto_own, frz, dVar, dC, dOp, dUn, dLs, aNil, aCons, dB, asB, dAnd, dOr, dNot, dAndV, dOrV, dNotV, dIfE, dTru, ofB, dFr, dMove, dTup, dLsO, opLst, dSl, pNone, pSome, asI, dOwnIx, ownL, dOwnLen, dOwnSl, dAppend, dPop, dCall0, dCall1, DL.call1, dMeth0, isC, wp_make, List.append_nil, dFld, oFldN, dOwnFld, sOwnFld, sf_00, sf_11, sf_22, sf_33, sf_0, sf_1, sf_2, sf_3, ownI, dCatO, iLst, asL, iRg, asRg, iRg3, asRg3, sFor, sWhile, dComp, wipeR,
 i_add, i_op0, i_op, i_eq, i_ne, s_eq, s_ne, s_add, l_ix, t_ix, l_add, l_cat, i_int, b_int, i_abs, l_len, t_len, r_len, s_len, i_str, i_max, i_min, oNeg, atI_0, atI_1, atI_2, atI_3, atI_m1, ixNL_0, ixNL_1, ixNL_2, ixNL_3,
 get_0, get_1, get_2, get_3, get_4, get_5, get_6, get_7, get_8, get_9, set_0, set_1, set_2, set_3, set_4, set_5, set_6, set_7, set_8, set_9, isT_tup, isT_str, isT_int, isT_bool, isT_lst, isC_ok, Bool.not_true, Bool.not_false, ln_0, ln_1, ln_2, ln_3, ln_4, lm_0, lm_1, lm_2, lm_3, lm_4, lm_5, lm_6, Option.bind_some, Option.bind_none, true_and, and_true, eq_self, ioIs, ite_and, if_true, if_false, ite_true, ite_false, reduceIte, Bool.false_eq_true, reduceCtorEq, decide_eq_true_eq, cdec_eq, cdec_ne, beq_iff_eq, Bool.not_eq_true']
    by_cases c : b < 0
    · rw [if_pos c]
      refine ⟨-a, -b, by omega, by omega, by omega, ?_, ?_, rfl⟩
      · unfold pa gs; rw [if_pos c, Int.ediv_neg, Int.neg_ediv_of_dvd (Int.gcd_dvd_left ..)]
      · unfold pb gs; rw [if_pos c, Int.ediv_neg, Int.neg_ediv_of_dvd (Int.gcd_dvd_right ..)]
    · rw [if_neg c]
      refine ⟨a, b, by omega, rfl, rfl, ?_, ?_, rfl⟩
      · unfold pa gs; rw [if_neg c]
      · unfold pb gs; rw [if_neg c]
  · rintro _ ⟨a', b', hp, hb, ha, ea, eb, rfl⟩
    have g0 := gcd_pos (a := a) h0
    have gl : Int.gcd a b ≤ b.natAbs := Nat.gcd_le_right _ (by omega)
    have d : ∀ i : Int, divOk i (Int.gcd a b : Int) = true := fun i => divOk_lt k (by omega) (Nat.lt_of_le_of_lt gl h) hk hk2
    have da : (Int.gcd a b : Int) ∣ a' := Int.ofNat_dvd_left.mpr (by rw [ha]; exact Nat.gcd_dvd_left ..)
    have db : (Int.gcd a b : Int) ∣ b' := Int.ofNat_dvd_left.mpr (by rw [hb]; exact Nat.gcd_dvd_right ..)
    try simp only [wpS_seq, wpS_next, wpS_if, wpS_ite, wpS_thn, wpS_ret, wpS_retO, wpS_drop, wpS_bad, wpS_nx, wpS_rt, wpS_sbad, wpS_ofO, wpS_frz', wpR_ok, wpR_bad, wpR_bind, wpR_ite, wpO_ok, wpO_bad, wpO_ite, wpO_toR, wpO_toR', wpO_toRO, wpX_ok, wpX_exc, wpX_bad, wpX_ite, wpX_ofD, wpX_noExc, wpO_ofD, wp_toRO1, wpR_noExc,
 sAsg, sAsgO, sOwnSet, sPar, putFro_if, putOwn_if, sto_no, sto_fro, sto_own, frz, dVar, dC, dOp, dUn, dLs, aNil, aCons, dB, asB, dAnd, dOr, dNot, dAndV, dOrV, dNotV, dIfE, dTru, ofB, dFr, dMove, dTup, dLsO, opLst, dSl, pNone, pSome, asI, dOwnIx, ownL, dOwnLen, dOwnSl, dAppend, dPop, dCall0, dCall1, DL.call1, dMeth0, isC, wp_make, List.append_nil, dFld, oFldN, dOwnFld, sOwnFld, sf_00, sf_11, sf_22, sf_33, sf_0, sf_1, sf_2, sf_3, ownI, dCatO, iLst, asL, iRg, asRg, iRg3, asRg3, sFor, sWhile, dComp, wipeR,
 i_add, i_op0, i_op, i_eq, i_ne, s_eq, s_ne, s_add, l_ix, t_ix, l_add, l_cat, i_int, b_int, i_abs, l_len, t_len, r_len, s_len, i_str, i_max, i_min, oNeg, atI_0, atI_1, atI_2, atI_3, atI_m1, ixNL_0, ixNL_1, ixNL_2, ixNL_3,
 get_0, get_1, get_2, get_3, get_4, get_5, get_6, get_7, get_8, get_9, set_0, set_1, set_2, set_3, set_4, set_5, set_6, set_7, set_8, set_9, isT_tup, isT_str, isT_int, isT_bool, isT_lst, isC_ok, Bool.not_true, Bool.not_false, ln_0, ln_1, ln_2, ln_3, ln_4, lm_0, lm_1, lm_2, lm_3, lm_4, lm_5, lm_6, Option.bind_some, Option.bind_none, true_and, and_true, eq_self, ioIs, ite_and, if_true, if_false, ite_true, ite_false, reduceIte, Bool.false_eq_true, reduceCtorEq, decide_eq_true_eq, cdec_eq, cdec_ne, beq_iff_eq, Bool.not_eq_true', iabs]
    rw [show b' = ((b'.natAbs : Nat) : Int) by omega]
    refine shared_wp ?_
    rw [ha, hb, show Nat.gcd a.natAbs b.natAbs = Int.gcd a b from rfl]
    try simp only [wpS_seq, wpS_next, wpS_if, wpS_ite, wpS_thn, wpS_ret, wpS_retO, wpS_drop, wpS_bad, wpS_nx, wpS_rt, wpS_sbad, wpS_ofO, wpS_frz', wpR_ok, wpR_bad, wpR_bind, wpR_ite, wpO_ok, wpO_bad, wpO_ite, wpO_toR, wpO_toR', wpO_toRO, wpX_ok, wpX_exc, wpX_bad, wpX_ite, wpX_ofD, wpX_noExc, wpO_ofD, wp_toRO1, wpR_noExc,
 sAsg, sAsgO, sOwnSet, sPar, putFro_if, putOwn_if, sto_no, sto_fro, sto_own, frz, dVar, dC, dOp, dUn, dLs, aNil, aCons, dB, asB, dAnd, dOr, dNot, dAndV, dOrV, dNotV, dIfE, dTru, ofB, dFr, dMove, dTup, dLsO, opLst, dSl, pNone, pSome, asI, dOwnIx, ownL, dOwnLen, dOwnSl, dAppend, dPop, dCall0, dCall1, DL.call1, dMeth0, isC, wp_make, List.append_nil, dFld, oFldN, dOwnFld, sOwnFld, sf_00, sf_11, sf_22, sf_33, sf_0, sf_1, sf_2, sf_3, ownI, dCatO, iLst, asL, iRg, asRg, iRg3, asRg3, sFor, sWhile, dComp, wipeR,
 i_add, i_op0, i_op, i_eq, i_ne, s_eq, s_ne, s_add, l_ix, t_ix, l_add, l_cat, i_int, b_int, i_abs, l_len, t_len, r_len, s_len, i_str, i_max, i_min, oNeg, atI_0, atI_1, atI_2, atI_3, atI_m1, ixNL_0, ixNL_1, ixNL_2, ixNL_3,
 get_0, get_1, get_2, get_3, get_4, get_5, get_6, get_7, get_8, get_9, set_0, set_1, set_2, set_3, set_4, set_5, set_6, set_7, set_8, set_9, isT_tup, isT_str, isT_int, isT_bool, isT_lst, isC_ok, Bool.not_true, Bool.not_false, ln_0, ln_1, ln_2, ln_3, ln_4, lm_0, lm_1, lm_2, lm_3, lm_4, lm_5, lm_6, Option.bind_some, Option.bind_none, true_and, and_true, eq_self, ioIs, ite_and, if_true, if_false, ite_true, ite_false, reduceIte, Bool.false_eq_true, reduceCtorEq, decide_eq_true_eq, cdec_eq, cdec_ne, beq_iff_eq, Bool.not_eq_true']
    refine ⟨d _, d _, ?_⟩
    rw [show ((b.natAbs : Nat) : Int) = b' by omega, Int.fdiv_eq_ediv_of_dvd da, Int.fdiv_eq_ediv_of_dvd db, ← ea, ← eb]
    exact q
/-! the feed -/
theorem feed_wp (ns : List Int) (hl : ns.length ≤ 63) {Q : D → Prop} {Z : Nat → D → Prop} (q : ∀ f, FdOk f → Q (fdD f)) : (fn_law_feed [.scr ns]).wpX Q Z := by
  unfold fn_law_feed bd_law_feed
  rw [wp_fn0r (by decide), show initR 2 [.scr ns] = [.fro (.scr ns), .no] from rfl]
  try simp only [wpS_seq, wpS_next, wpS_if, wpS_ite, wpS_thn, wpS_ret, wpS_retO, wpS_drop, wpS_bad, wpS_nx, wpS_rt, wpS_sbad, wpS_ofO, wpS_frz', wpR_ok, wpR_bad, wpR_bind, wpR_ite, wpO_ok, wpO_bad, wpO_ite, wpO_toR, wpO_toR', wpO_toRO, wpX_ok, wpX_exc, wpX_bad, wpX_ite, wpX_ofD, wpX_noExc, wpO_ofD, wp_toRO1, wpR_noExc,
 sAsg, sAsgO, sOwnSet, sPar, putFro_if, putOwn_if, sto_no, sto_fro, sto_own, frz, dVar, dC, dOp, dUn, dLs, aNil, aCons, dB, asB, dAnd, dOr, dNot, dAndV, dOrV, dNotV, dIfE, dTru, ofB, dFr, dMove, dTup, dLsO, opLst, dSl, pNone, pSome, asI, dOwnIx, ownL, dOwnLen, dOwnSl, dAppend, dPop, dCall0, dCall1, DL.call1, dMeth0, isC, wp_make, List.append_nil, dFld, oFldN, dOwnFld, sOwnFld, sf_00, sf_11, sf_22, sf_33, sf_0, sf_1, sf_2, sf_3, ownI, dCatO, iLst, asL, iRg, asRg, iRg3, asRg3, sFor, sWhile, dComp, wipeR,
 i_add, i_op0, i_op, i_eq, i_ne, s_eq, s_ne, s_add, l_ix, t_ix, l_add, l_cat, i_int, b_int, i_abs, l_len, t_len, r_len, s_len, i_str, i_max, i_min, oNeg, atI_0, atI_1, atI_2, atI_3, atI_m1, ixNL_0, ixNL_1, ixNL_2, ixNL_3,
 get_0, get_1, get_2, get_3, get_4, get_5, get_6, get_7, get_8, get_9, set_0, set_1, set_2, set_3, set_4, set_5, set_6, set_7, set_8, set_9, isT_tup, isT_str, isT_int, isT_bool, isT_lst, isC_ok, Bool.not_true, Bool.not_false, ln_0, ln_1, ln_2, ln_3, ln_4, lm_0, lm_1, lm_2, lm_3, lm_4, lm_5, lm_6, Option.bind_some, Option.bind_none, true_and, and_true, eq_self, ioIs, ite_and, if_true, if_false, ite_true, ite_false, reduceIte, Bool.false_eq_true, reduceCtorEq, decide_eq_true_eq, cdec_eq, cdec_ne, beq_iff_eq, Bool.not_eq_true', oSl]
  refine wp_comp (fun i acc ρ => ρ = [.fro (.scr ns), .no] ∧ ∃ zs : List Int, acc = zs.map .int ∧ ∀ z ∈ zs, 0 ≤ z) _ 0 [] _ ⟨rfl, [], rfl, by simp⟩ ?_ ?_
  · rintro i x _ _ hx ⟨rfl, zs, rfl, hz⟩
    rw [List.getElem?_map] at hx
    cases e : (List.take (HT.sIx ns.length ns.length (some 63) - HT.sIx ns.length 0 none) (List.drop (HT.sIx ns.length 0 none) ns))[i]? with
    | none => rw [e] at hx; cases hx
    | some z =>
      rw [e] at hx
      cases hx
      refine ⟨_, rfl, ?_⟩
      try simp only [wpS_seq, wpS_next, wpS_if, wpS_ite, wpS_thn, wpS_ret, wpS_retO, wpS_drop, wpS_bad, wpS_nx, wpS_rt, wpS_sbad, wpS_ofO, wpS_frz', wpR_ok, wpR_bad, wpR_bind, wpR_ite, wpO_ok, wpO_bad, wpO_ite, wpO_toR, wpO_toR', wpO_toRO, wpX_ok, wpX_exc, wpX_bad, wpX_ite, wpX_ofD, wpX_noExc, wpO_ofD, wp_toRO1, wpR_noExc,
 sAsg, sAsgO, sOwnSet, sPar, putFro_if, putOwn_if, sto_no, sto_fro, sto_own, frz, dVar, dC, dOp, dUn, dLs, aNil, aCons, dB, asB, dAnd, dOr, dNot, dAndV, dOrV, dNotV, dIfE, dTru, ofB, dFr, dMove, dTup, dLsO, opLst, dSl, pNone, pSome, asI, dOwnIx, ownL, dOwnLen, dOwnSl, dAppend, dPop, dCall0, dCall1, DL.call1, dMeth0, isC, wp_make, List.append_nil, dFld, oFldN, dOwnFld, sOwnFld, sf_00, sf_11, sf_22, sf_33, sf_0, sf_1, sf_2, sf_3, ownI, dCatO, iLst, asL, iRg, asRg, iRg3, asRg3, sFor, sWhile, dComp, wipeR,
 i_add, i_op0, i_op, i_eq, i_ne, s_eq, s_ne, s_add, l_ix, t_ix, l_add, l_cat, i_int, b_int, i_abs, l_len, t_len, r_len, s_len, i_str, i_max, i_min, oNeg, atI_0, atI_1, atI_2, atI_3, atI_m1, ixNL_0, ixNL_1, ixNL_2, ixNL_3,
 get_0, get_1, get_2, get_3, get_4, get_5, get_6, get_7, get_8, get_9, set_0, set_1, set_2, set_3, set_4, set_5, set_6, set_7, set_8, set_9, isT_tup, isT_str, isT_int, isT_bool, isT_lst, isC_ok, Bool.not_true, Bool.not_false, ln_0, ln_1, ln_2, ln_3, ln_4, lm_0, lm_1, lm_2, lm_3, lm_4, lm_5, lm_6, Option.bind_some, Option.bind_none, true_and, and_true, eq_self, ioIs, ite_and, if_true, if_false, ite_true, ite_false, reduceIte, Bool.false_eq_true, reduceCtorEq, decide_eq_true_eq, cdec_eq, cdec_ne, beq_iff_eq, Bool.not_eq_true', iabs]
      refine ⟨zs ++ [(z.natAbs : Int)], by simp, fun y hy => ?_⟩
      rcases List.mem_append.mp hy with h | h
      · exact hz y h
      · rw [List.mem_singleton.mp h]; omega
  · rintro _ _ ⟨rfl, zs, rfl, hz⟩
    try simp only [wpS_seq, wpS_next, wpS_if, wpS_ite, wpS_thn, wpS_ret, wpS_retO, wpS_drop, wpS_bad, wpS_nx, wpS_rt, wpS_sbad, wpS_ofO, wpS_frz', wpR_ok, wpR_bad, wpR_bind, wpR_ite, wpO_ok, wpO_bad, wpO_ite, wpO_toR, wpO_toR', wpO_toRO, wpX_ok, wpX_exc, wpX_bad, wpX_ite, wpX_ofD, wpX_noExc, wpO_ofD, wp_toRO1, wpR_noExc,
 sAsg, sAsgO, sOwnSet, sPar, putFro_if, putOwn_if, sto_no, sto_fro, sto_own, frz, dVar, dC, dOp, dUn, dLs, aNil, aCons, dB, asB, dAnd, dOr, dNot, dAndV, dOrV, dNotV, dIfE, dTru, ofB, dFr, dMove, dTup, dLsO, opLst, dSl, pNone, pSome, asI, dOwnIx, ownL, dOwnLen, dOwnSl, dAppend, dPop, dCall0, dCall1, DL.call1, dMeth0, isC, wp_make, List.append_nil, dFld, oFldN, dOwnFld, sOwnFld, sf_00, sf_11, sf_22, sf_33, sf_0, sf_1, sf_2, sf_3, ownI, dCatO, iLst, asL, iRg, asRg, iRg3, asRg3, sFor, sWhile, dComp, wipeR,
 i_add, i_op0, i_op, i_eq, i_ne, s_eq, s_ne, s_add, l_ix, t_ix, l_add, l_cat, i_int, b_int, i_abs, l_len, t_len, r_len, s_len, i_str, i_max, i_min, oNeg, atI_0, atI_1, atI_2, atI_3, atI_m1, ixNL_0, ixNL_1, ixNL_2, ixNL_3,
 get_0, get_1, get_2, get_3, get_4, get_5, get_6, get_7, get_8, get_9, set_0, set_1, set_2, set_3, set_4, set_5, set_6, set_7, set_8, set_9, isT_tup, isT_str, isT_int, isT_bool, isT_lst, isC_ok, Bool.not_true, Bool.not_false, ln_0, ln_1, ln_2, ln_3, ln_4, lm_0, lm_1, lm_2, lm_3, lm_4, lm_5, lm_6, Option.bind_some, Option.bind_none, true_and, and_true, eq_self, ioIs, ite_and, if_true, if_false, ite_true, ite_false, reduceIte, Bool.false_eq_true, reduceCtorEq, decide_eq_true_eq, cdec_eq, cdec_ne, beq_iff_eq, Bool.not_eq_true']
    have := q ⟨zs, 0, 0, 7 + ns.length⟩ ⟨hz, by show 7 + ns.length < _; omega⟩
    unfold fdD at this
    rw [show ((7 + ns.length : Nat) : Int) = 7 + (ns.length : Int) by omega] at this
    exact this
/-! terms -/
inductive Tm where
  | let (c : Nat) | num (a b : Int) | star (t : Tm) | plus (s t : Tm) | row (s t : Tm)
def letS (c : Nat) : Str := ⟨#[c]⟩
def tmD : Tm → D
  | .let c => .tup [.str "letter", .str (letS c)]
  | .num a b => .tup [.str "number", .tup [.int a, .int b]]
  | .star t => .tup [.str "star", tmD t]
  | .plus s t => .tup [.str "plus", tmD s, tmD t]
  | .row s t => .tup [.str "row", tmD s, tmD t]
def mdD : Tm → D
  | .let c => .tup [.str "letter", .str (letS c)]
  | .num a b => .tup [.str "number", .ins 0 [.int a, .int b]]
  | .star t => .tup [.str "star", mdD t]
  | .plus s t => .tup [.str "plus", mdD s, mdD t]
  | .row s t => .tup [.str "row", mdD s, mdD t]
def wt : Tm → Nat
  | .let _ => 2
  | .num _ _ => 2
  | .star t => wt t + 1
  | .plus s t => wt s + wt t
  | .row s t => wt s + wt t
def TmOk : Tm → Prop
  | .let c => c ∈ [97, 98, 99, 100]
  | .num a b => 0 < b ∧ Int.gcd a b = 1 ∧ a.natAbs < 2 ^ 200 ∧ b.natAbs < 2 ^ 200
  | .star t => TmOk t
  | .plus s t => TmOk s ∧ TmOk t
  | .row s t => TmOk s ∧ TmOk t
theorem wt_two : ∀ t, 2 ≤ wt t
  | .let _ => Nat.le_refl _
  | .num _ _ => Nat.le_refl _
  | .star t => by have := wt_two t; show 2 ≤ wt t + 1; omega
  | .plus s t => by have := wt_two t; show 2 ≤ wt s + wt t; omega
  | .row s t => by have := wt_two t; show 2 ≤ wt s + wt t; omega
theorem num_ok {a b : Int} (h0 : b ≠ 0) (ha : a.natAbs < 2 ^ 200) (hb : b.natAbs < 2 ^ 200) : TmOk (.num (pa a b) (pb a b)) :=
  ⟨pb_pos h0, pq_gcd h0, Nat.lt_of_le_of_lt (pa_le a b) ha, Nat.lt_of_le_of_lt (pb_le a b) hb⟩
theorem p10 : (100000 : Int) ^ 8 = 10000000000000000000000000000000000000000 := by decide
theorem abcd_cps : ("abcd" : Str).cps.toList = [97, 98, 99, 100] := by decide +kernel
theorem abcd_len : ("abcd" : Str).length ≤ most := by unfold most; decide +kernel
theorem abcd_ix {r : Int} (h0 : 0 ≤ r) (h1 : r < 4) : ∃ c, c ∈ ([97, 98, 99, 100] : List Nat) ∧ oIx (.str "abcd") (.int r) = .ok (.str (letS c)) := by
  have e : ∀ r : Int, oIx (.str "abcd") (.int r) = .ofD ((L2.atI ("abcd" : Str).cps.toList r).map fun c => .str ⟨#[c]⟩) := fun r => by
    show (if ("abcd" : Str).length ≤ most then O.ofD ((L2.atI ("abcd" : Str).cps.toList r).map fun c => .str ⟨#[c]⟩) else .bad) = _
    rw [if_pos abcd_len]
  simp only [e, abcd_cps]
  rcases (by omega : r = 0 ∨ r = 1 ∨ r = 2 ∨ r = 3) with rfl | rfl | rfl | rfl
  · exact ⟨97, by decide, rfl⟩
  · exact ⟨98, by decide, rfl⟩
  · exact ⟨99, by decide, rfl⟩
  · exact ⟨100, by decide, rfl⟩
theorem leaf_wp {f : Fd} {w : Int} (hw : w = 0 ∨ w = 8) {Q : D → D → Prop} {Z : Nat → D → Prop} (h : FdOk f) (q : ∀ t f', TmOk t → wt t = 2 → FdOk f' → Q (tmD t) (fdD f')) : (fn_law_leaf (fdD f) [.int w]).wpX Q Z := by
  unfold fn_law_leaf bd_law_leaf
  rw [wp_fn1, show initR1 4 1 (fdD f) [.int w] = [.own true 1 (fdD f), .fro (.int w), .no, .no] from rfl]
  try simp only [wpS_seq, wpS_next, wpS_if, wpS_ite, wpS_thn, wpS_ret, wpS_retO, wpS_drop, wpS_bad, wpS_nx, wpS_rt, wpS_sbad, wpS_ofO, wpS_frz', wpR_ok, wpR_bad, wpR_bind, wpR_ite, wpO_ok, wpO_bad, wpO_ite, wpO_toR, wpO_toR', wpO_toRO, wpX_ok, wpX_exc, wpX_bad, wpX_ite, wpX_ofD, wpX_noExc, wpO_ofD, wp_toRO1, wpR_noExc,
 sAsg, sAsgO, sOwnSet, sPar, putFro_if, putOwn_if, sto_no, sto_fro, sto_own, frz, dVar, dC, dOp, dUn, dLs, aNil, aCons, dB, asB, dAnd, dOr, dNot, dAndV, dOrV, dNotV, dIfE, dTru, ofB, dFr, dMove, dTup, dLsO, opLst, dSl, pNone, pSome, asI, dOwnIx, ownL, dOwnLen, dOwnSl, dAppend, dPop, dCall0, dCall1, DL.call1, dMeth0, isC, wp_make, List.append_nil, dFld, oFldN, dOwnFld, sOwnFld, sf_00, sf_11, sf_22, sf_33, sf_0, sf_1, sf_2, sf_3, ownI, dCatO, iLst, asL, iRg, asRg, iRg3, asRg3, sFor, sWhile, dComp, wipeR,
 i_add, i_op0, i_op, i_eq, i_ne, s_eq, s_ne, s_add, l_ix, t_ix, l_add, l_cat, i_int, b_int, i_abs, l_len, t_len, r_len, s_len, i_str, i_max, i_min, oNeg, atI_0, atI_1, atI_2, atI_3, atI_m1, ixNL_0, ixNL_1, ixNL_2, ixNL_3,
 get_0, get_1, get_2, get_3, get_4, get_5, get_6, get_7, get_8, get_9, set_0, set_1, set_2, set_3, set_4, set_5, set_6, set_7, set_8, set_9, isT_tup, isT_str, isT_int, isT_bool, isT_lst, isC_ok, Bool.not_true, Bool.not_false, ln_0, ln_1, ln_2, ln_3, ln_4, lm_0, lm_1, lm_2, lm_3, lm_4, lm_5, lm_6, Option.bind_some, Option.bind_none, true_and, and_true, eq_self, ioIs, ite_and, if_true, if_false, ite_true, ite_false, reduceIte, Bool.false_eq_true, reduceCtorEq, decide_eq_true_eq, cdec_eq, cdec_ne, beq_iff_eq, Bool.not_eq_true']
  refine draw_wp h (by decide) (by decide) fun kd f1 k0 k1 h1 => ?_
  try simp only [wpS_seq, wpS_next, wpS_if, wpS_ite, wpS_thn, wpS_ret, wpS_retO, wpS_drop, wpS_bad, wpS_nx, wpS_rt, wpS_sbad, wpS_ofO, wpS_frz', wpR_ok, wpR_bad, wpR_bind, wpR_ite, wpO_ok, wpO_bad, wpO_ite, wpO_toR, wpO_toR', wpO_toRO, wpX_ok, wpX_exc, wpX_bad, wpX_ite, wpX_ofD, wpX_noExc, wpO_ofD, wp_toRO1, wpR_noExc,
 sAsg, sAsgO, sOwnSet, sPar, putFro_if, putOwn_if, sto_no, sto_fro, sto_own, frz, dVar, dC, dOp, dUn, dLs, aNil, aCons, dB, asB, dAnd, dOr, dNot, dAndV, dOrV, dNotV, dIfE, dTru, ofB, dFr, dMove, dTup, dLsO, opLst, dSl, pNone, pSome, asI, dOwnIx, ownL, dOwnLen, dOwnSl, dAppend, dPop, dCall0, dCall1, DL.call1, dMeth0, isC, wp_make, List.append_nil, dFld, oFldN, dOwnFld, sOwnFld, sf_00, sf_11, sf_22, sf_33, sf_0, sf_1, sf_2, sf_3, ownI, dCatO, iLst, asL, iRg, asRg, iRg3, asRg3, sFor, sWhile, dComp, wipeR,
 i_add, i_op0, i_op, i_eq, i_ne, s_eq, s_ne, s_add, l_ix, t_ix, l_add, l_cat, i_int, b_int, i_abs, l_len, t_len, r_len, s_len, i_str, i_max, i_min, oNeg, atI_0, atI_1, atI_2, atI_3, atI_m1, ixNL_0, ixNL_1, ixNL_2, ixNL_3,
 get_0, get_1, get_2, get_3, get_4, get_5, get_6, get_7, get_8, get_9, set_0, set_1, set_2, set_3, set_4, set_5, set_6, set_7, set_8, set_9, isT_tup, isT_str, isT_int, isT_bool, isT_lst, isC_ok, Bool.not_true, Bool.not_false, ln_0, ln_1, ln_2, ln_3, ln_4, lm_0, lm_1, lm_2, lm_3, lm_4, lm_5, lm_6, Option.bind_some, Option.bind_none, true_and, and_true, eq_self, ioIs, ite_and, if_true, if_false, ite_true, ite_false, reduceIte, Bool.false_eq_true, reduceCtorEq, decide_eq_true_eq, cdec_eq, cdec_ne, beq_iff_eq, Bool.not_eq_true']
  by_cases c1 : kd < 2
  · rw [if_pos c1]
    try simp only [wpS_seq, wpS_next, wpS_if, wpS_ite, wpS_thn, wpS_ret, wpS_retO, wpS_drop, wpS_bad, wpS_nx, wpS_rt, wpS_sbad, wpS_ofO, wpS_frz', wpR_ok, wpR_bad, wpR_bind, wpR_ite, wpO_ok, wpO_bad, wpO_ite, wpO_toR, wpO_toR', wpO_toRO, wpX_ok, wpX_exc, wpX_bad, wpX_ite, wpX_ofD, wpX_noExc, wpO_ofD, wp_toRO1, wpR_noExc,
 sAsg, sAsgO, sOwnSet, sPar, putFro_if, putOwn_if, sto_no, sto_fro, sto_own, frz, dVar, dC, dOp, dUn, dLs, aNil, aCons, dB, asB, dAnd, dOr, dNot, dAndV, dOrV, dNotV, dIfE, dTru, ofB, dFr, dMove, dTup, dLsO, opLst, dSl, pNone, pSome, asI, dOwnIx, ownL, dOwnLen, dOwnSl, dAppend, dPop, dCall0, dCall1, DL.call1, dMeth0, isC, wp_make, List.append_nil, dFld, oFldN, dOwnFld, sOwnFld, sf_00, sf_11, sf_22, sf_33, sf_0, sf_1, sf_2, sf_3, ownI, dCatO, iLst, asL, iRg, asRg, iRg3, asRg3, sFor, sWhile, dComp, wipeR,
 i_add, i_op0, i_op, i_eq, i_ne, s_eq, s_ne, s_add, l_ix, t_ix, l_add, l_cat, i_int, b_int, i_abs, l_len, t_len, r_len, s_len, i_str, i_max, i_min, oNeg, atI_0, atI_1, atI_2, atI_3, atI_m1, ixNL_0, ixNL_1, ixNL_2, ixNL_3,
 get_0, get_1, get_2, get_3, get_4, get_5, get_6, get_7, get_8, get_9, set_0, set_1, set_2, set_3, set_4, set_5, set_6, set_7, set_8, set_9, isT_tup, isT_str, isT_int, isT_bool, isT_lst, isC_ok, Bool.not_true, Bool.not_false, ln_0, ln_1, ln_2, ln_3, ln_4, lm_0, lm_1, lm_2, lm_3, lm_4, lm_5, lm_6, Option.bind_some, Option.bind_none, true_and, and_true, eq_self, ioIs, ite_and, if_true, if_false, ite_true, ite_false, reduceIte, Bool.false_eq_true, reduceCtorEq, decide_eq_true_eq, cdec_eq, cdec_ne, beq_iff_eq, Bool.not_eq_true']
    refine draw_wp h1 (by decide) (by decide) fun r f2 r0 r1 h2 => ?_
    try simp only [wpS_seq, wpS_next, wpS_if, wpS_ite, wpS_thn, wpS_ret, wpS_retO, wpS_drop, wpS_bad, wpS_nx, wpS_rt, wpS_sbad, wpS_ofO, wpS_frz', wpR_ok, wpR_bad, wpR_bind, wpR_ite, wpO_ok, wpO_bad, wpO_ite, wpO_toR, wpO_toR', wpO_toRO, wpX_ok, wpX_exc, wpX_bad, wpX_ite, wpX_ofD, wpX_noExc, wpO_ofD, wp_toRO1, wpR_noExc,
 sAsg, sAsgO, sOwnSet, sPar, putFro_if, putOwn_if, sto_no, sto_fro, sto_own, frz, dVar, dC, dOp, dUn, dLs, aNil, aCons, dB, asB, dAnd, dOr, dNot, dAndV, dOrV, dNotV, dIfE, dTru, ofB, dFr, dMove, dTup, dLsO, opLst, dSl, pNone, pSome, asI, dOwnIx, ownL, dOwnLen, dOwnSl, dAppend, dPop, dCall0, dCall1, DL.call1, dMeth0, isC, wp_make, List.append_nil, dFld, oFldN, dOwnFld, sOwnFld, sf_00, sf_11, sf_22, sf_33, sf_0, sf_1, sf_2, sf_3, ownI, dCatO, iLst, asL, iRg, asRg, iRg3, asRg3, sFor, sWhile, dComp, wipeR,
 i_add, i_op0, i_op, i_eq, i_ne, s_eq, s_ne, s_add, l_ix, t_ix, l_add, l_cat, i_int, b_int, i_abs, l_len, t_len, r_len, s_len, i_str, i_max, i_min, oNeg, atI_0, atI_1, atI_2, atI_3, atI_m1, ixNL_0, ixNL_1, ixNL_2, ixNL_3,
 get_0, get_1, get_2, get_3, get_4, get_5, get_6, get_7, get_8, get_9, set_0, set_1, set_2, set_3, set_4, set_5, set_6, set_7, set_8, set_9, isT_tup, isT_str, isT_int, isT_bool, isT_lst, isC_ok, Bool.not_true, Bool.not_false, ln_0, ln_1, ln_2, ln_3, ln_4, lm_0, lm_1, lm_2, lm_3, lm_4, lm_5, lm_6, Option.bind_some, Option.bind_none, true_and, and_true, eq_self, ioIs, ite_and, if_true, if_false, ite_true, ite_false, reduceIte, Bool.false_eq_true, reduceCtorEq, decide_eq_true_eq, cdec_eq, cdec_ne, beq_iff_eq, Bool.not_eq_true']
    obtain ⟨c, hc, e⟩ := abcd_ix r0 r1
    rw [e]
    exact q (.let c) f2 hc rfl h2
  · rw [if_neg c1]
    by_cases c2 : kd = 2
    · rw [if_pos c2]
      refine draw_wp h1 (by decide) (by decide) fun r f2 r0 r1 h2 => ?_
      try simp only [wpS_seq, wpS_next, wpS_if, wpS_ite, wpS_thn, wpS_ret, wpS_retO, wpS_drop, wpS_bad, wpS_nx, wpS_rt, wpS_sbad, wpS_ofO, wpS_frz', wpR_ok, wpR_bad, wpR_bind, wpR_ite, wpO_ok, wpO_bad, wpO_ite, wpO_toR, wpO_toR', wpO_toRO, wpX_ok, wpX_exc, wpX_bad, wpX_ite, wpX_ofD, wpX_noExc, wpO_ofD, wp_toRO1, wpR_noExc,
 sAsg, sAsgO, sOwnSet, sPar, putFro_if, putOwn_if, sto_no, sto_fro, sto_own, frz, dVar, dC, dOp, dUn, dLs, aNil, aCons, dB, asB, dAnd, dOr, dNot, dAndV, dOrV, dNotV, dIfE, dTru, ofB, dFr, dMove, dTup, dLsO, opLst, dSl, pNone, pSome, asI, dOwnIx, ownL, dOwnLen, dOwnSl, dAppend, dPop, dCall0, dCall1, DL.call1, dMeth0, isC, wp_make, List.append_nil, dFld, oFldN, dOwnFld, sOwnFld, sf_00, sf_11, sf_22, sf_33, sf_0, sf_1, sf_2, sf_3, ownI, dCatO, iLst, asL, iRg, asRg, iRg3, asRg3, sFor, sWhile, dComp, wipeR,
 i_add, i_op0, i_op, i_eq, i_ne, s_eq, s_ne, s_add, l_ix, t_ix, l_add, l_cat, i_int, b_int, i_abs, l_len, t_len, r_len, s_len, i_str, i_max, i_min, oNeg, atI_0, atI_1, atI_2, atI_3, atI_m1, ixNL_0, ixNL_1, ixNL_2, ixNL_3,
 get_0, get_1, get_2, get_3, get_4, get_5, get_6, get_7, get_8, get_9, set_0, set_1, set_2, set_3, set_4, set_5, set_6, set_7, set_8, set_9, isT_tup, isT_str, isT_int, isT_bool, isT_lst, isC_ok, Bool.not_true, Bool.not_false, ln_0, ln_1, ln_2, ln_3, ln_4, lm_0, lm_1, lm_2, lm_3, lm_4, lm_5, lm_6, Option.bind_some, Option.bind_none, true_and, and_true, eq_self, ioIs, ite_and, if_true, if_false, ite_true, ite_false, reduceIte, Bool.false_eq_true, reduceCtorEq, decide_eq_true_eq, cdec_eq, cdec_ne, beq_iff_eq, Bool.not_eq_true']
      refine q (.num (r - 6) 1) f2 ⟨by decide, by simp, ?_, by decide⟩ rfl h2
      exact Nat.lt_of_lt_of_le (show (r - 6).natAbs < 2 ^ 10 by omega) (Nat.pow_le_pow_right (by decide) (by decide))
    · rw [if_neg c2]
      rcases hw with rfl | rfl
      · try simp only [wpS_seq, wpS_next, wpS_if, wpS_ite, wpS_thn, wpS_ret, wpS_retO, wpS_drop, wpS_bad, wpS_nx, wpS_rt, wpS_sbad, wpS_ofO, wpS_frz', wpR_ok, wpR_bad, wpR_bind, wpR_ite, wpO_ok, wpO_bad, wpO_ite, wpO_toR, wpO_toR', wpO_toRO, wpX_ok, wpX_exc, wpX_bad, wpX_ite, wpX_ofD, wpX_noExc, wpO_ofD, wp_toRO1, wpR_noExc,
 sAsg, sAsgO, sOwnSet, sPar, putFro_if, putOwn_if, sto_no, sto_fro, sto_own, frz, dVar, dC, dOp, dUn, dLs, aNil, aCons, dB, asB, dAnd, dOr, dNot, dAndV, dOrV, dNotV, dIfE, dTru, ofB, dFr, dMove, dTup, dLsO, opLst, dSl, pNone, pSome, asI, dOwnIx, ownL, dOwnLen, dOwnSl, dAppend, dPop, dCall0, dCall1, DL.call1, dMeth0, isC, wp_make, List.append_nil, dFld, oFldN, dOwnFld, sOwnFld, sf_00, sf_11, sf_22, sf_33, sf_0, sf_1, sf_2, sf_3, ownI, dCatO, iLst, asL, iRg, asRg, iRg3, asRg3, sFor, sWhile, dComp, wipeR,
 i_add, i_op0, i_op, i_eq, i_ne, s_eq, s_ne, s_add, l_ix, t_ix, l_add, l_cat, i_int, b_int, i_abs, l_len, t_len, r_len, s_len, i_str, i_max, i_min, oNeg, atI_0, atI_1, atI_2, atI_3, atI_m1, ixNL_0, ixNL_1, ixNL_2, ixNL_3,
 get_0, get_1, get_2, get_3, get_4, get_5, get_6, get_7, get_8, get_9, set_0, set_1, set_2, set_3, set_4, set_5, set_6, set_7, set_8, set_9, isT_tup, isT_str, isT_int, isT_bool, isT_lst, isC_ok, Bool.not_true, Bool.not_false, ln_0, ln_1, ln_2, ln_3, ln_4, lm_0, lm_1, lm_2, lm_3, lm_4, lm_5, lm_6, Option.bind_some, Option.bind_none, true_and, and_true, eq_self, ioIs, ite_and, if_true, if_false, ite_true, ite_false, reduceIte, Bool.false_eq_true, reduceCtorEq, decide_eq_true_eq, cdec_eq, cdec_ne, beq_iff_eq, Bool.not_eq_true']
        rw [if_neg (by decide)]
        refine draw_wp h1 (by decide) (by decide) fun r f2 r0 r1 h2 => ?_
        try simp only [wpS_seq, wpS_next, wpS_if, wpS_ite, wpS_thn, wpS_ret, wpS_retO, wpS_drop, wpS_bad, wpS_nx, wpS_rt, wpS_sbad, wpS_ofO, wpS_frz', wpR_ok, wpR_bad, wpR_bind, wpR_ite, wpO_ok, wpO_bad, wpO_ite, wpO_toR, wpO_toR', wpO_toRO, wpX_ok, wpX_exc, wpX_bad, wpX_ite, wpX_ofD, wpX_noExc, wpO_ofD, wp_toRO1, wpR_noExc,
 sAsg, sAsgO, sOwnSet, sPar, putFro_if, putOwn_if, sto_no, sto_fro, sto_own, frz, dVar, dC, dOp, dUn, dLs, aNil, aCons, dB, asB, dAnd, dOr, dNot, dAndV, dOrV, dNotV, dIfE, dTru, ofB, dFr, dMove, dTup, dLsO, opLst, dSl, pNone, pSome, asI, dOwnIx, ownL, dOwnLen, dOwnSl, dAppend, dPop, dCall0, dCall1, DL.call1, dMeth0, isC, wp_make, List.append_nil, dFld, oFldN, dOwnFld, sOwnFld, sf_00, sf_11, sf_22, sf_33, sf_0, sf_1, sf_2, sf_3, ownI, dCatO, iLst, asL, iRg, asRg, iRg3, asRg3, sFor, sWhile, dComp, wipeR,
 i_add, i_op0, i_op, i_eq, i_ne, s_eq, s_ne, s_add, l_ix, t_ix, l_add, l_cat, i_int, b_int, i_abs, l_len, t_len, r_len, s_len, i_str, i_max, i_min, oNeg, atI_0, atI_1, atI_2, atI_3, atI_m1, ixNL_0, ixNL_1, ixNL_2, ixNL_3,
 get_0, get_1, get_2, get_3, get_4, get_5, get_6, get_7, get_8, get_9, set_0, set_1, set_2, set_3, set_4, set_5, set_6, set_7, set_8, set_9, isT_tup, isT_str, isT_int, isT_bool, isT_lst, isC_ok, Bool.not_true, Bool.not_false, ln_0, ln_1, ln_2, ln_3, ln_4, lm_0, lm_1, lm_2, lm_3, lm_4, lm_5, lm_6, Option.bind_some, Option.bind_none, true_and, and_true, eq_self, ioIs, ite_and, if_true, if_false, ite_true, ite_false, reduceIte, Bool.false_eq_true, reduceCtorEq, decide_eq_true_eq, cdec_eq, cdec_ne, beq_iff_eq, Bool.not_eq_true']
        refine draw_wp h2 (by decide) (by decide) fun r' f3 r0' r1' h3 => ?_
        try simp only [wpS_seq, wpS_next, wpS_if, wpS_ite, wpS_thn, wpS_ret, wpS_retO, wpS_drop, wpS_bad, wpS_nx, wpS_rt, wpS_sbad, wpS_ofO, wpS_frz', wpR_ok, wpR_bad, wpR_bind, wpR_ite, wpO_ok, wpO_bad, wpO_ite, wpO_toR, wpO_toR', wpO_toRO, wpX_ok, wpX_exc, wpX_bad, wpX_ite, wpX_ofD, wpX_noExc, wpO_ofD, wp_toRO1, wpR_noExc,
 sAsg, sAsgO, sOwnSet, sPar, putFro_if, putOwn_if, sto_no, sto_fro, sto_own, frz, dVar, dC, dOp, dUn, dLs, aNil, aCons, dB, asB, dAnd, dOr, dNot, dAndV, dOrV, dNotV, dIfE, dTru, ofB, dFr, dMove, dTup, dLsO, opLst, dSl, pNone, pSome, asI, dOwnIx, ownL, dOwnLen, dOwnSl, dAppend, dPop, dCall0, dCall1, DL.call1, dMeth0, isC, wp_make, List.append_nil, dFld, oFldN, dOwnFld, sOwnFld, sf_00, sf_11, sf_22, sf_33, sf_0, sf_1, sf_2, sf_3, ownI, dCatO, iLst, asL, iRg, asRg, iRg3, asRg3, sFor, sWhile, dComp, wipeR,
 i_add, i_op0, i_op, i_eq, i_ne, s_eq, s_ne, s_add, l_ix, t_ix, l_add, l_cat, i_int, b_int, i_abs, l_len, t_len, r_len, s_len, i_str, i_max, i_min, oNeg, atI_0, atI_1, atI_2, atI_3, atI_m1, ixNL_0, ixNL_1, ixNL_2, ixNL_3,
 get_0, get_1, get_2, get_3, get_4, get_5, get_6, get_7, get_8, get_9, set_0, set_1, set_2, set_3, set_4, set_5, set_6, set_7, set_8, set_9, isT_tup, isT_str, isT_int, isT_bool, isT_lst, isC_ok, Bool.not_true, Bool.not_false, ln_0, ln_1, ln_2, ln_3, ln_4, lm_0, lm_1, lm_2, lm_3, lm_4, lm_5, lm_6, Option.bind_some, Option.bind_none, true_and, and_true, eq_self, ioIs, ite_and, if_true, if_false, ite_true, ite_false, reduceIte, Bool.false_eq_true, reduceCtorEq, decide_eq_true_eq, cdec_eq, cdec_ne, beq_iff_eq, Bool.not_eq_true']
        have hb : (1 + r').natAbs < 2 ^ 200 := Nat.lt_of_lt_of_le (show (1 + r').natAbs < 2 ^ 10 by omega) (Nat.pow_le_pow_right (by decide) (by decide))
        have ha : (r - 12).natAbs < 2 ^ 200 := Nat.lt_of_lt_of_le (show (r - 12).natAbs < 2 ^ 10 by omega) (Nat.pow_le_pow_right (by decide) (by decide))
        refine pair_wp (by omega) hb (by decide) (by decide) ?_
        try simp only [wpS_seq, wpS_next, wpS_if, wpS_ite, wpS_thn, wpS_ret, wpS_retO, wpS_drop, wpS_bad, wpS_nx, wpS_rt, wpS_sbad, wpS_ofO, wpS_frz', wpR_ok, wpR_bad, wpR_bind, wpR_ite, wpO_ok, wpO_bad, wpO_ite, wpO_toR, wpO_toR', wpO_toRO, wpX_ok, wpX_exc, wpX_bad, wpX_ite, wpX_ofD, wpX_noExc, wpO_ofD, wp_toRO1, wpR_noExc,
 sAsg, sAsgO, sOwnSet, sPar, putFro_if, putOwn_if, sto_no, sto_fro, sto_own, frz, dVar, dC, dOp, dUn, dLs, aNil, aCons, dB, asB, dAnd, dOr, dNot, dAndV, dOrV, dNotV, dIfE, dTru, ofB, dFr, dMove, dTup, dLsO, opLst, dSl, pNone, pSome, asI, dOwnIx, ownL, dOwnLen, dOwnSl, dAppend, dPop, dCall0, dCall1, DL.call1, dMeth0, isC, wp_make, List.append_nil, dFld, oFldN, dOwnFld, sOwnFld, sf_00, sf_11, sf_22, sf_33, sf_0, sf_1, sf_2, sf_3, ownI, dCatO, iLst, asL, iRg, asRg, iRg3, asRg3, sFor, sWhile, dComp, wipeR,
 i_add, i_op0, i_op, i_eq, i_ne, s_eq, s_ne, s_add, l_ix, t_ix, l_add, l_cat, i_int, b_int, i_abs, l_len, t_len, r_len, s_len, i_str, i_max, i_min, oNeg, atI_0, atI_1, atI_2, atI_3, atI_m1, ixNL_0, ixNL_1, ixNL_2, ixNL_3,
 get_0, get_1, get_2, get_3, get_4, get_5, get_6, get_7, get_8, get_9, set_0, set_1, set_2, set_3, set_4, set_5, set_6, set_7, set_8, set_9, isT_tup, isT_str, isT_int, isT_bool, isT_lst, isC_ok, Bool.not_true, Bool.not_false, ln_0, ln_1, ln_2, ln_3, ln_4, lm_0, lm_1, lm_2, lm_3, lm_4, lm_5, lm_6, Option.bind_some, Option.bind_none, true_and, and_true, eq_self, ioIs, ite_and, if_true, if_false, ite_true, ite_false, reduceIte, Bool.false_eq_true, reduceCtorEq, decide_eq_true_eq, cdec_eq, cdec_ne, beq_iff_eq, Bool.not_eq_true']
        exact q (.num _ _) f3 (num_ok (by omega) ha hb) rfl h3
      · try simp only [wpS_seq, wpS_next, wpS_if, wpS_ite, wpS_thn, wpS_ret, wpS_retO, wpS_drop, wpS_bad, wpS_nx, wpS_rt, wpS_sbad, wpS_ofO, wpS_frz', wpR_ok, wpR_bad, wpR_bind, wpR_ite, wpO_ok, wpO_bad, wpO_ite, wpO_toR, wpO_toR', wpO_toRO, wpX_ok, wpX_exc, wpX_bad, wpX_ite, wpX_ofD, wpX_noExc, wpO_ofD, wp_toRO1, wpR_noExc,
 sAsg, sAsgO, sOwnSet, sPar, putFro_if, putOwn_if, sto_no, sto_fro, sto_own, frz, dVar, dC, dOp, dUn, dLs, aNil, aCons, dB, asB, dAnd, dOr, dNot, dAndV, dOrV, dNotV, dIfE, dTru, ofB, dFr, dMove, dTup, dLsO, opLst, dSl, pNone, pSome, asI, dOwnIx, ownL, dOwnLen, dOwnSl, dAppend, dPop, dCall0, dCall1, DL.call1, dMeth0, isC, wp_make, List.append_nil, dFld, oFldN, dOwnFld, sOwnFld, sf_00, sf_11, sf_22, sf_33, sf_0, sf_1, sf_2, sf_3, ownI, dCatO, iLst, asL, iRg, asRg, iRg3, asRg3, sFor, sWhile, dComp, wipeR,
 i_add, i_op0, i_op, i_eq, i_ne, s_eq, s_ne, s_add, l_ix, t_ix, l_add, l_cat, i_int, b_int, i_abs, l_len, t_len, r_len, s_len, i_str, i_max, i_min, oNeg, atI_0, atI_1, atI_2, atI_3, atI_m1, ixNL_0, ixNL_1, ixNL_2, ixNL_3,
 get_0, get_1, get_2, get_3, get_4, get_5, get_6, get_7, get_8, get_9, set_0, set_1, set_2, set_3, set_4, set_5, set_6, set_7, set_8, set_9, isT_tup, isT_str, isT_int, isT_bool, isT_lst, isC_ok, Bool.not_true, Bool.not_false, ln_0, ln_1, ln_2, ln_3, ln_4, lm_0, lm_1, lm_2, lm_3, lm_4, lm_5, lm_6, Option.bind_some, Option.bind_none, true_and, and_true, eq_self, ioIs, ite_and, if_true, if_false, ite_true, ite_false, reduceIte, Bool.false_eq_true, reduceCtorEq, decide_eq_true_eq, cdec_eq, cdec_ne, beq_iff_eq, Bool.not_eq_true']
        rw [if_pos (by decide)]
        refine great_wp (p := 8) h1 (by decide) fun r f2 r0 r1 h2 => ?_
        try simp only [wpS_seq, wpS_next, wpS_if, wpS_ite, wpS_thn, wpS_ret, wpS_retO, wpS_drop, wpS_bad, wpS_nx, wpS_rt, wpS_sbad, wpS_ofO, wpS_frz', wpR_ok, wpR_bad, wpR_bind, wpR_ite, wpO_ok, wpO_bad, wpO_ite, wpO_toR, wpO_toR', wpO_toRO, wpX_ok, wpX_exc, wpX_bad, wpX_ite, wpX_ofD, wpX_noExc, wpO_ofD, wp_toRO1, wpR_noExc,
 sAsg, sAsgO, sOwnSet, sPar, putFro_if, putOwn_if, sto_no, sto_fro, sto_own, frz, dVar, dC, dOp, dUn, dLs, aNil, aCons, dB, asB, dAnd, dOr, dNot, dAndV, dOrV, dNotV, dIfE, dTru, ofB, dFr, dMove, dTup, dLsO, opLst, dSl, pNone, pSome, asI, dOwnIx, ownL, dOwnLen, dOwnSl, dAppend, dPop, dCall0, dCall1, DL.call1, dMeth0, isC, wp_make, List.append_nil, dFld, oFldN, dOwnFld, sOwnFld, sf_00, sf_11, sf_22, sf_33, sf_0, sf_1, sf_2, sf_3, ownI, dCatO, iLst, asL, iRg, asRg, iRg3, asRg3, sFor, sWhile, dComp, wipeR,
 i_add, i_op0, i_op, i_eq, i_ne, s_eq, s_ne, s_add, l_ix, t_ix, l_add, l_cat, i_int, b_int, i_abs, l_len, t_len, r_len, s_len, i_str, i_max, i_min, oNeg, atI_0, atI_1, atI_2, atI_3, atI_m1, ixNL_0, ixNL_1, ixNL_2, ixNL_3,
 get_0, get_1, get_2, get_3, get_4, get_5, get_6, get_7, get_8, get_9, set_0, set_1, set_2, set_3, set_4, set_5, set_6, set_7, set_8, set_9, isT_tup, isT_str, isT_int, isT_bool, isT_lst, isC_ok, Bool.not_true, Bool.not_false, ln_0, ln_1, ln_2, ln_3, ln_4, lm_0, lm_1, lm_2, lm_3, lm_4, lm_5, lm_6, Option.bind_some, Option.bind_none, true_and, and_true, eq_self, ioIs, ite_and, if_true, if_false, ite_true, ite_false, reduceIte, Bool.false_eq_true, reduceCtorEq, decide_eq_true_eq, cdec_eq, cdec_ne, beq_iff_eq, Bool.not_eq_true']
        refine draw_wp h2 (by decide) (by decide) fun r' f3 r0' r1' h3 => ?_
        try simp only [wpS_seq, wpS_next, wpS_if, wpS_ite, wpS_thn, wpS_ret, wpS_retO, wpS_drop, wpS_bad, wpS_nx, wpS_rt, wpS_sbad, wpS_ofO, wpS_frz', wpR_ok, wpR_bad, wpR_bind, wpR_ite, wpO_ok, wpO_bad, wpO_ite, wpO_toR, wpO_toR', wpO_toRO, wpX_ok, wpX_exc, wpX_bad, wpX_ite, wpX_ofD, wpX_noExc, wpO_ofD, wp_toRO1, wpR_noExc,
 sAsg, sAsgO, sOwnSet, sPar, putFro_if, putOwn_if, sto_no, sto_fro, sto_own, frz, dVar, dC, dOp, dUn, dLs, aNil, aCons, dB, asB, dAnd, dOr, dNot, dAndV, dOrV, dNotV, dIfE, dTru, ofB, dFr, dMove, dTup, dLsO, opLst, dSl, pNone, pSome, asI, dOwnIx, ownL, dOwnLen, dOwnSl, dAppend, dPop, dCall0, dCall1, DL.call1, dMeth0, isC, wp_make, List.append_nil, dFld, oFldN, dOwnFld, sOwnFld, sf_00, sf_11, sf_22, sf_33, sf_0, sf_1, sf_2, sf_3, ownI, dCatO, iLst, asL, iRg, asRg, iRg3, asRg3, sFor, sWhile, dComp, wipeR,
 i_add, i_op0, i_op, i_eq, i_ne, s_eq, s_ne, s_add, l_ix, t_ix, l_add, l_cat, i_int, b_int, i_abs, l_len, t_len, r_len, s_len, i_str, i_max, i_min, oNeg, atI_0, atI_1, atI_2, atI_3, atI_m1, ixNL_0, ixNL_1, ixNL_2, ixNL_3,
 get_0, get_1, get_2, get_3, get_4, get_5, get_6, get_7, get_8, get_9, set_0, set_1, set_2, set_3, set_4, set_5, set_6, set_7, set_8, set_9, isT_tup, isT_str, isT_int, isT_bool, isT_lst, isC_ok, Bool.not_true, Bool.not_false, ln_0, ln_1, ln_2, ln_3, ln_4, lm_0, lm_1, lm_2, lm_3, lm_4, lm_5, lm_6, Option.bind_some, Option.bind_none, true_and, and_true, eq_self, ioIs, ite_and, if_true, if_false, ite_true, ite_false, reduceIte, Bool.false_eq_true, reduceCtorEq, decide_eq_true_eq, cdec_eq, cdec_ne, beq_iff_eq, Bool.not_eq_true']
        rw [p10] at r1
        have big : ∀ x : Int, x.natAbs < 2 ^ 140 → x.natAbs < 2 ^ 200 := fun x hx => Nat.lt_of_lt_of_le hx (Nat.pow_le_pow_right (by decide) (by decide))
        have e2 : r * (1 - 2 * r') = r ∨ r * (1 - 2 * r') = -r := by
          rcases (by omega : r' = 0 ∨ r' = 1) with rfl | rfl
          · left; simp
          · right; simp
        refine ⟨mulOk_of (k := 10) (m := 10) (by decide) (by omega) (by decide) (by decide) (by decide), mulOk_of (k := 140) (m := 10) (by omega) (by omega) (by decide) (by decide) (by decide), ?_⟩
        generalize r * (1 - 2 * r') = x at e2
        have hx : x.natAbs < 2 ^ 200 := big x (by omega)
        refine great_wp (p := 8) h3 (by decide) fun y f4 y0 y1 h4 => ?_
        try simp only [wpS_seq, wpS_next, wpS_if, wpS_ite, wpS_thn, wpS_ret, wpS_retO, wpS_drop, wpS_bad, wpS_nx, wpS_rt, wpS_sbad, wpS_ofO, wpS_frz', wpR_ok, wpR_bad, wpR_bind, wpR_ite, wpO_ok, wpO_bad, wpO_ite, wpO_toR, wpO_toR', wpO_toRO, wpX_ok, wpX_exc, wpX_bad, wpX_ite, wpX_ofD, wpX_noExc, wpO_ofD, wp_toRO1, wpR_noExc,
 sAsg, sAsgO, sOwnSet, sPar, putFro_if, putOwn_if, sto_no, sto_fro, sto_own, frz, dVar, dC, dOp, dUn, dLs, aNil, aCons, dB, asB, dAnd, dOr, dNot, dAndV, dOrV, dNotV, dIfE, dTru, ofB, dFr, dMove, dTup, dLsO, opLst, dSl, pNone, pSome, asI, dOwnIx, ownL, dOwnLen, dOwnSl, dAppend, dPop, dCall0, dCall1, DL.call1, dMeth0, isC, wp_make, List.append_nil, dFld, oFldN, dOwnFld, sOwnFld, sf_00, sf_11, sf_22, sf_33, sf_0, sf_1, sf_2, sf_3, ownI, dCatO, iLst, asL, iRg, asRg, iRg3, asRg3, sFor, sWhile, dComp, wipeR,
 i_add, i_op0, i_op, i_eq, i_ne, s_eq, s_ne, s_add, l_ix, t_ix, l_add, l_cat, i_int, b_int, i_abs, l_len, t_len, r_len, s_len, i_str, i_max, i_min, oNeg, atI_0, atI_1, atI_2, atI_3, atI_m1, ixNL_0, ixNL_1, ixNL_2, ixNL_3,
 get_0, get_1, get_2, get_3, get_4, get_5, get_6, get_7, get_8, get_9, set_0, set_1, set_2, set_3, set_4, set_5, set_6, set_7, set_8, set_9, isT_tup, isT_str, isT_int, isT_bool, isT_lst, isC_ok, Bool.not_true, Bool.not_false, ln_0, ln_1, ln_2, ln_3, ln_4, lm_0, lm_1, lm_2, lm_3, lm_4, lm_5, lm_6, Option.bind_some, Option.bind_none, true_and, and_true, eq_self, ioIs, ite_and, if_true, if_false, ite_true, ite_false, reduceIte, Bool.false_eq_true, reduceCtorEq, decide_eq_true_eq, cdec_eq, cdec_ne, beq_iff_eq, Bool.not_eq_true']
        rw [p10] at y1
        generalize hm : (if y > 1 then y else 1) = m
        have hm1 : 1 ≤ m ∧ m.natAbs < 2 ^ 140 := by split at hm <;> omega
        refine pair_wp (by omega) (big m hm1.2) (by decide) (by decide) ?_
        try simp only [wpS_seq, wpS_next, wpS_if, wpS_ite, wpS_thn, wpS_ret, wpS_retO, wpS_drop, wpS_bad, wpS_nx, wpS_rt, wpS_sbad, wpS_ofO, wpS_frz', wpR_ok, wpR_bad, wpR_bind, wpR_ite, wpO_ok, wpO_bad, wpO_ite, wpO_toR, wpO_toR', wpO_toRO, wpX_ok, wpX_exc, wpX_bad, wpX_ite, wpX_ofD, wpX_noExc, wpO_ofD, wp_toRO1, wpR_noExc,
 sAsg, sAsgO, sOwnSet, sPar, putFro_if, putOwn_if, sto_no, sto_fro, sto_own, frz, dVar, dC, dOp, dUn, dLs, aNil, aCons, dB, asB, dAnd, dOr, dNot, dAndV, dOrV, dNotV, dIfE, dTru, ofB, dFr, dMove, dTup, dLsO, opLst, dSl, pNone, pSome, asI, dOwnIx, ownL, dOwnLen, dOwnSl, dAppend, dPop, dCall0, dCall1, DL.call1, dMeth0, isC, wp_make, List.append_nil, dFld, oFldN, dOwnFld, sOwnFld, sf_00, sf_11, sf_22, sf_33, sf_0, sf_1, sf_2, sf_3, ownI, dCatO, iLst, asL, iRg, asRg, iRg3, asRg3, sFor, sWhile, dComp, wipeR,
 i_add, i_op0, i_op, i_eq, i_ne, s_eq, s_ne, s_add, l_ix, t_ix, l_add, l_cat, i_int, b_int, i_abs, l_len, t_len, r_len, s_len, i_str, i_max, i_min, oNeg, atI_0, atI_1, atI_2, atI_3, atI_m1, ixNL_0, ixNL_1, ixNL_2, ixNL_3,
 get_0, get_1, get_2, get_3, get_4, get_5, get_6, get_7, get_8, get_9, set_0, set_1, set_2, set_3, set_4, set_5, set_6, set_7, set_8, set_9, isT_tup, isT_str, isT_int, isT_bool, isT_lst, isC_ok, Bool.not_true, Bool.not_false, ln_0, ln_1, ln_2, ln_3, ln_4, lm_0, lm_1, lm_2, lm_3, lm_4, lm_5, lm_6, Option.bind_some, Option.bind_none, true_and, and_true, eq_self, ioIs, ite_and, if_true, if_false, ite_true, ite_false, reduceIte, Bool.false_eq_true, reduceCtorEq, decide_eq_true_eq, cdec_eq, cdec_ne, beq_iff_eq, Bool.not_eq_true']
        exact q (.num _ _) f4 (num_ok (by omega) hx (big m hm1.2)) rfl h4
/-! joined terms -/
theorem joined_wp {f : Fd} {s t : Tm} {Q : D → D → Prop} {Z : Nat → D → Prop} (h : FdOk f) (hs : TmOk s) (ht : TmOk t) (q : ∀ u f', TmOk u → wt u = wt s + wt t → FdOk f' → Q (tmD u) (fdD f')) : (fn_law_joined (fdD f) [tmD s, tmD t]).wpX Q Z := by
  unfold fn_law_joined bd_law_joined
  rw [wp_fn1, show initR1 3 1 (fdD f) [tmD s, tmD t] = [.own true 1 (fdD f), .fro (tmD s), .fro (tmD t)] from rfl]
  try simp only [wpS_seq, wpS_next, wpS_if, wpS_ite, wpS_thn, wpS_ret, wpS_retO, wpS_drop, wpS_bad, wpS_nx, wpS_rt, wpS_sbad, wpS_ofO, wpS_frz', wpR_ok, wpR_bad, wpR_bind, wpR_ite, wpO_ok, wpO_bad, wpO_ite, wpO_toR, wpO_toR', wpO_toRO, wpX_ok, wpX_exc, wpX_bad, wpX_ite, wpX_ofD, wpX_noExc, wpO_ofD, wp_toRO1, wpR_noExc,
 sAsg, sAsgO, sOwnSet, sPar, putFro_if, putOwn_if, sto_no, sto_fro, sto_own, frz, dVar, dC, dOp, dUn, dLs, aNil, aCons, dB, asB, dAnd, dOr, dNot, dAndV, dOrV, dNotV, dIfE, dTru, ofB, dFr, dMove, dTup, dLsO, opLst, dSl, pNone, pSome, asI, dOwnIx, ownL, dOwnLen, dOwnSl, dAppend, dPop, dCall0, dCall1, DL.call1, dMeth0, isC, wp_make, List.append_nil, dFld, oFldN, dOwnFld, sOwnFld, sf_00, sf_11, sf_22, sf_33, sf_0, sf_1, sf_2, sf_3, ownI, dCatO, iLst, asL, iRg, asRg, iRg3, asRg3, sFor, sWhile, dComp, wipeR,
 i_add, i_op0, i_op, i_eq, i_ne, s_eq, s_ne, s_add, l_ix, t_ix, l_add, l_cat, i_int, b_int, i_abs, l_len, t_len, r_len, s_len, i_str, i_max, i_min, oNeg, atI_0, atI_1, atI_2, atI_3, atI_m1, ixNL_0, ixNL_1, ixNL_2, ixNL_3,
 get_0, get_1, get_2, get_3, get_4, get_5, get_6, get_7, get_8, get_9, set_0, set_1, set_2, set_3, set_4, set_5, set_6, set_7, set_8, set_9, isT_tup, isT_str, isT_int, isT_bool, isT_lst, isC_ok, Bool.not_true, Bool.not_false, ln_0, ln_1, ln_2, ln_3, ln_4, lm_0, lm_1, lm_2, lm_3, lm_4, lm_5, lm_6, Option.bind_some, Option.bind_none, true_and, and_true, eq_self, ioIs, ite_and, if_true, if_false, ite_true, ite_false, reduceIte, Bool.false_eq_true, reduceCtorEq, decide_eq_true_eq, cdec_eq, cdec_ne, beq_iff_eq, Bool.not_eq_true']
  refine draw_wp h (by decide) (by decide) fun r f1 r0 r1 h1 => ?_
  rcases (by omega : r = 0 ∨ r = 1) with rfl | rfl
  · try simp only [wpS_seq, wpS_next, wpS_if, wpS_ite, wpS_thn, wpS_ret, wpS_retO, wpS_drop, wpS_bad, wpS_nx, wpS_rt, wpS_sbad, wpS_ofO, wpS_frz', wpR_ok, wpR_bad, wpR_bind, wpR_ite, wpO_ok, wpO_bad, wpO_ite, wpO_toR, wpO_toR', wpO_toRO, wpX_ok, wpX_exc, wpX_bad, wpX_ite, wpX_ofD, wpX_noExc, wpO_ofD, wp_toRO1, wpR_noExc,
 sAsg, sAsgO, sOwnSet, sPar, putFro_if, putOwn_if, sto_no, sto_fro, sto_own, frz, dVar, dC, dOp, dUn, dLs, aNil, aCons, dB, asB, dAnd, dOr, dNot, dAndV, dOrV, dNotV, dIfE, dTru, ofB, dFr, dMove, dTup, dLsO, opLst, dSl, pNone, pSome, asI, dOwnIx, ownL, dOwnLen, dOwnSl, dAppend, dPop, dCall0, dCall1, DL.call1, dMeth0, isC, wp_make, List.append_nil, dFld, oFldN, dOwnFld, sOwnFld, sf_00, sf_11, sf_22, sf_33, sf_0, sf_1, sf_2, sf_3, ownI, dCatO, iLst, asL, iRg, asRg, iRg3, asRg3, sFor, sWhile, dComp, wipeR,
 i_add, i_op0, i_op, i_eq, i_ne, s_eq, s_ne, s_add, l_ix, t_ix, l_add, l_cat, i_int, b_int, i_abs, l_len, t_len, r_len, s_len, i_str, i_max, i_min, oNeg, atI_0, atI_1, atI_2, atI_3, atI_m1, ixNL_0, ixNL_1, ixNL_2, ixNL_3,
 get_0, get_1, get_2, get_3, get_4, get_5, get_6, get_7, get_8, get_9, set_0, set_1, set_2, set_3, set_4, set_5, set_6, set_7, set_8, set_9, isT_tup, isT_str, isT_int, isT_bool, isT_lst, isC_ok, Bool.not_true, Bool.not_false, ln_0, ln_1, ln_2, ln_3, ln_4, lm_0, lm_1, lm_2, lm_3, lm_4, lm_5, lm_6, Option.bind_some, Option.bind_none, true_and, and_true, eq_self, ioIs, ite_and, if_true, if_false, ite_true, ite_false, reduceIte, Bool.false_eq_true, reduceCtorEq, decide_eq_true_eq, cdec_eq, cdec_ne, beq_iff_eq, Bool.not_eq_true']
    exact q (.plus s t) f1 ⟨hs, ht⟩ rfl h1
  · try simp only [wpS_seq, wpS_next, wpS_if, wpS_ite, wpS_thn, wpS_ret, wpS_retO, wpS_drop, wpS_bad, wpS_nx, wpS_rt, wpS_sbad, wpS_ofO, wpS_frz', wpR_ok, wpR_bad, wpR_bind, wpR_ite, wpO_ok, wpO_bad, wpO_ite, wpO_toR, wpO_toR', wpO_toRO, wpX_ok, wpX_exc, wpX_bad, wpX_ite, wpX_ofD, wpX_noExc, wpO_ofD, wp_toRO1, wpR_noExc,
 sAsg, sAsgO, sOwnSet, sPar, putFro_if, putOwn_if, sto_no, sto_fro, sto_own, frz, dVar, dC, dOp, dUn, dLs, aNil, aCons, dB, asB, dAnd, dOr, dNot, dAndV, dOrV, dNotV, dIfE, dTru, ofB, dFr, dMove, dTup, dLsO, opLst, dSl, pNone, pSome, asI, dOwnIx, ownL, dOwnLen, dOwnSl, dAppend, dPop, dCall0, dCall1, DL.call1, dMeth0, isC, wp_make, List.append_nil, dFld, oFldN, dOwnFld, sOwnFld, sf_00, sf_11, sf_22, sf_33, sf_0, sf_1, sf_2, sf_3, ownI, dCatO, iLst, asL, iRg, asRg, iRg3, asRg3, sFor, sWhile, dComp, wipeR,
 i_add, i_op0, i_op, i_eq, i_ne, s_eq, s_ne, s_add, l_ix, t_ix, l_add, l_cat, i_int, b_int, i_abs, l_len, t_len, r_len, s_len, i_str, i_max, i_min, oNeg, atI_0, atI_1, atI_2, atI_3, atI_m1, ixNL_0, ixNL_1, ixNL_2, ixNL_3,
 get_0, get_1, get_2, get_3, get_4, get_5, get_6, get_7, get_8, get_9, set_0, set_1, set_2, set_3, set_4, set_5, set_6, set_7, set_8, set_9, isT_tup, isT_str, isT_int, isT_bool, isT_lst, isC_ok, Bool.not_true, Bool.not_false, ln_0, ln_1, ln_2, ln_3, ln_4, lm_0, lm_1, lm_2, lm_3, lm_4, lm_5, lm_6, Option.bind_some, Option.bind_none, true_and, and_true, eq_self, ioIs, ite_and, if_true, if_false, ite_true, ite_false, reduceIte, Bool.false_eq_true, reduceCtorEq, decide_eq_true_eq, cdec_eq, cdec_ne, beq_iff_eq, Bool.not_eq_true']
    exact q (.row s t) f1 ⟨hs, ht⟩ rfl h1
def wts (ts : List Tm) : Nat := (ts.map wt).sum
theorem wts_nil : wts [] = 0 := rfl
theorem wts_cons (t : Tm) (ts : List Tm) : wts (t :: ts) = wt t + wts ts := by unfold wts; rw [List.map_cons, List.sum_cons]
theorem wts_app (ts us : List Tm) : wts (ts ++ us) = wts ts + wts us := by unfold wts; rw [List.map_append, List.sum_append]
theorem wts_len : ∀ ts : List Tm, 2 * ts.length ≤ wts ts
  | [] => by simp [wts_nil]
  | t :: ts => by have := wts_len ts; have := wt_two t; rw [wts_cons, List.length_cons]; omega
theorem map_split1 {ts : List Tm} {n : Nat} (h : n < ts.length) : ∃ l1 x l2, ts = l1 ++ x :: l2 ∧ ts.map tmD = l1.map tmD ++ tmD x :: l2.map tmD ∧ (l1.map tmD).length = n := by
  obtain ⟨l1, x, l2, e, hl⟩ := split1 h
  exact ⟨l1, x, l2, e, by rw [e, List.map_append, List.map_cons], by rw [List.length_map]; exact hl⟩
theorem map_split2 {ts : List Tm} {n : Nat} (h : n + 1 < ts.length) : ∃ l1 x y l2, ts = l1 ++ x :: y :: l2 ∧ ts.map tmD = l1.map tmD ++ tmD x :: tmD y :: l2.map tmD ∧ (l1.map tmD).length = n := by
  obtain ⟨l1, x, y, l2, e, hl⟩ := split2 h
  exact ⟨l1, x, y, l2, e, by rw [e, List.map_append, List.map_cons, List.map_cons], by rw [List.length_map]; exact hl⟩
/-- ten leaves at most, in a comprehension -/
theorem bush_wp {f : Fd} {w : Int} (hw : w = 0 ∨ w = 8) {Q : D → D → Prop} {Z : Nat → D → Prop} (h : FdOk f) (q : ∀ t f', TmOk t → wt t ≤ 60 → FdOk f' → Q (tmD t) (fdD f')) : (fn_law_bush (fdD f) [.int w]).wpX Q Z := by
  unfold fn_law_bush bd_law_bush
  rw [wp_fn1, show initR1 6 1 (fdD f) [.int w] = [.own true 1 (fdD f), .fro (.int w), .no, .no, .no, .no] from rfl]
  refine wp_cut (fun ρ => ∃ f' ts, FdOk f' ∧ ts ≠ [] ∧ (∀ t ∈ ts, TmOk t) ∧ wts ts ≤ 20 ∧ ρ = [.own true 1 (fdD f'), .fro (.int w), .own false 1 (.lst (ts.map tmD)), .no, .no, .no]) ?_ ?_
  · try simp only [wpS_seq, wpS_next, wpS_if, wpS_ite, wpS_thn, wpS_ret, wpS_retO, wpS_drop, wpS_bad, wpS_nx, wpS_rt, wpS_sbad, wpS_ofO, wpS_frz', wpR_ok, wpR_bad, wpR_bind, wpR_ite, wpO_ok, wpO_bad, wpO_ite, wpO_toR, wpO_toR', wpO_toRO, wpX_ok, wpX_exc, wpX_bad, wpX_ite, wpX_ofD, wpX_noExc, wpO_ofD, wp_toRO1, wpR_noExc,
 sAsg, sAsgO, sOwnSet, sPar, putFro_if, putOwn_if, sto_no, sto_fro, sto_own, frz, dVar, dC, dOp, dUn, dLs, aNil, aCons, dB, asB, dAnd, dOr, dNot, dAndV, dOrV, dNotV, dIfE, dTru, ofB, dFr, dMove, dTup, dLsO, opLst, dSl, pNone, pSome, asI, dOwnIx, ownL, dOwnLen, dOwnSl, dAppend, dPop, dCall0, dCall1, DL.call1, dMeth0, isC, wp_make, List.append_nil, dFld, oFldN, dOwnFld, sOwnFld, sf_00, sf_11, sf_22, sf_33, sf_0, sf_1, sf_2, sf_3, ownI, dCatO, iLst, asL, iRg, asRg, iRg3, asRg3, sFor, sWhile, dComp, wipeR,
 i_add, i_op0, i_op, i_eq, i_ne, s_eq, s_ne, s_add, l_ix, t_ix, l_add, l_cat, i_int, b_int, i_abs, l_len, t_len, r_len, s_len, i_str, i_max, i_min, oNeg, atI_0, atI_1, atI_2, atI_3, atI_m1, ixNL_0, ixNL_1, ixNL_2, ixNL_3,
 get_0, get_1, get_2, get_3, get_4, get_5, get_6, get_7, get_8, get_9, set_0, set_1, set_2, set_3, set_4, set_5, set_6, set_7, set_8, set_9, isT_tup, isT_str, isT_int, isT_bool, isT_lst, isC_ok, Bool.not_true, Bool.not_false, ln_0, ln_1, ln_2, ln_3, ln_4, lm_0, lm_1, lm_2, lm_3, lm_4, lm_5, lm_6, Option.bind_some, Option.bind_none, true_and, and_true, eq_self, ioIs, ite_and, if_true, if_false, ite_true, ite_false, reduceIte, Bool.false_eq_true, reduceCtorEq, decide_eq_true_eq, cdec_eq, cdec_ne, beq_iff_eq, Bool.not_eq_true']
    refine draw_wp h (by decide) (by decide) fun r f1 r0 r1 h1 => ?_
    try simp only [wpS_seq, wpS_next, wpS_if, wpS_ite, wpS_thn, wpS_ret, wpS_retO, wpS_drop, wpS_bad, wpS_nx, wpS_rt, wpS_sbad, wpS_ofO, wpS_frz', wpR_ok, wpR_bad, wpR_bind, wpR_ite, wpO_ok, wpO_bad, wpO_ite, wpO_toR, wpO_toR', wpO_toRO, wpX_ok, wpX_exc, wpX_bad, wpX_ite, wpX_ofD, wpX_noExc, wpO_ofD, wp_toRO1, wpR_noExc,
 sAsg, sAsgO, sOwnSet, sPar, putFro_if, putOwn_if, sto_no, sto_fro, sto_own, frz, dVar, dC, dOp, dUn, dLs, aNil, aCons, dB, asB, dAnd, dOr, dNot, dAndV, dOrV, dNotV, dIfE, dTru, ofB, dFr, dMove, dTup, dLsO, opLst, dSl, pNone, pSome, asI, dOwnIx, ownL, dOwnLen, dOwnSl, dAppend, dPop, dCall0, dCall1, DL.call1, dMeth0, isC, wp_make, List.append_nil, dFld, oFldN, dOwnFld, sOwnFld, sf_00, sf_11, sf_22, sf_33, sf_0, sf_1, sf_2, sf_3, ownI, dCatO, iLst, asL, iRg, asRg, iRg3, asRg3, sFor, sWhile, dComp, wipeR,
 i_add, i_op0, i_op, i_eq, i_ne, s_eq, s_ne, s_add, l_ix, t_ix, l_add, l_cat, i_int, b_int, i_abs, l_len, t_len, r_len, s_len, i_str, i_max, i_min, oNeg, atI_0, atI_1, atI_2, atI_3, atI_m1, ixNL_0, ixNL_1, ixNL_2, ixNL_3,
 get_0, get_1, get_2, get_3, get_4, get_5, get_6, get_7, get_8, get_9, set_0, set_1, set_2, set_3, set_4, set_5, set_6, set_7, set_8, set_9, isT_tup, isT_str, isT_int, isT_bool, isT_lst, isC_ok, Bool.not_true, Bool.not_false, ln_0, ln_1, ln_2, ln_3, ln_4, lm_0, lm_1, lm_2, lm_3, lm_4, lm_5, lm_6, Option.bind_some, Option.bind_none, true_and, and_true, eq_self, ioIs, ite_and, if_true, if_false, ite_true, ite_false, reduceIte, Bool.false_eq_true, reduceCtorEq, decide_eq_true_eq, cdec_eq, cdec_ne, beq_iff_eq, Bool.not_eq_true']
    rw [rgOk_small (by decide) (by decide) (by omega) (by omega)]
    try simp only [wpS_seq, wpS_next, wpS_if, wpS_ite, wpS_thn, wpS_ret, wpS_retO, wpS_drop, wpS_bad, wpS_nx, wpS_rt, wpS_sbad, wpS_ofO, wpS_frz', wpR_ok, wpR_bad, wpR_bind, wpR_ite, wpO_ok, wpO_bad, wpO_ite, wpO_toR, wpO_toR', wpO_toRO, wpX_ok, wpX_exc, wpX_bad, wpX_ite, wpX_ofD, wpX_noExc, wpO_ofD, wp_toRO1, wpR_noExc,
 sAsg, sAsgO, sOwnSet, sPar, putFro_if, putOwn_if, sto_no, sto_fro, sto_own, frz, dVar, dC, dOp, dUn, dLs, aNil, aCons, dB, asB, dAnd, dOr, dNot, dAndV, dOrV, dNotV, dIfE, dTru, ofB, dFr, dMove, dTup, dLsO, opLst, dSl, pNone, pSome, asI, dOwnIx, ownL, dOwnLen, dOwnSl, dAppend, dPop, dCall0, dCall1, DL.call1, dMeth0, isC, wp_make, List.append_nil, dFld, oFldN, dOwnFld, sOwnFld, sf_00, sf_11, sf_22, sf_33, sf_0, sf_1, sf_2, sf_3, ownI, dCatO, iLst, asL, iRg, asRg, iRg3, asRg3, sFor, sWhile, dComp, wipeR,
 i_add, i_op0, i_op, i_eq, i_ne, s_eq, s_ne, s_add, l_ix, t_ix, l_add, l_cat, i_int, b_int, i_abs, l_len, t_len, r_len, s_len, i_str, i_max, i_min, oNeg, atI_0, atI_1, atI_2, atI_3, atI_m1, ixNL_0, ixNL_1, ixNL_2, ixNL_3,
 get_0, get_1, get_2, get_3, get_4, get_5, get_6, get_7, get_8, get_9, set_0, set_1, set_2, set_3, set_4, set_5, set_6, set_7, set_8, set_9, isT_tup, isT_str, isT_int, isT_bool, isT_lst, isC_ok, Bool.not_true, Bool.not_false, ln_0, ln_1, ln_2, ln_3, ln_4, lm_0, lm_1, lm_2, lm_3, lm_4, lm_5, lm_6, Option.bind_some, Option.bind_none, true_and, and_true, eq_self, ioIs, ite_and, if_true, if_false, ite_true, ite_false, reduceIte, Bool.false_eq_true, reduceCtorEq, decide_eq_true_eq, cdec_eq, cdec_ne, beq_iff_eq, Bool.not_eq_true']
    refine wp_comp (fun i acc ρ => ∃ f' ts, FdOk f' ∧ ts.length = i ∧ (∀ t ∈ ts, TmOk t) ∧ wts ts = 2 * i ∧ acc = ts.map tmD ∧ ρ = [.own true 1 (fdD f'), .fro (.int w), .no, .no, .no, .no]) _ 0 [] _ ⟨f1, [], h1, rfl, by simp, rfl, rfl, rfl⟩ ?_ ?_
    · rintro i x _ _ hx ⟨f2, ts, h2, hl, ok, hs, rfl, rfl⟩
      refine ⟨_, rfl, ?_⟩
      try simp only [wpS_seq, wpS_next, wpS_if, wpS_ite, wpS_thn, wpS_ret, wpS_retO, wpS_drop, wpS_bad, wpS_nx, wpS_rt, wpS_sbad, wpS_ofO, wpS_frz', wpR_ok, wpR_bad, wpR_bind, wpR_ite, wpO_ok, wpO_bad, wpO_ite, wpO_toR, wpO_toR', wpO_toRO, wpX_ok, wpX_exc, wpX_bad, wpX_ite, wpX_ofD, wpX_noExc, wpO_ofD, wp_toRO1, wpR_noExc,
 sAsg, sAsgO, sOwnSet, sPar, putFro_if, putOwn_if, sto_no, sto_fro, sto_own, frz, dVar, dC, dOp, dUn, dLs, aNil, aCons, dB, asB, dAnd, dOr, dNot, dAndV, dOrV, dNotV, dIfE, dTru, ofB, dFr, dMove, dTup, dLsO, opLst, dSl, pNone, pSome, asI, dOwnIx, ownL, dOwnLen, dOwnSl, dAppend, dPop, dCall0, dCall1, DL.call1, dMeth0, isC, wp_make, List.append_nil, dFld, oFldN, dOwnFld, sOwnFld, sf_00, sf_11, sf_22, sf_33, sf_0, sf_1, sf_2, sf_3, ownI, dCatO, iLst, asL, iRg, asRg, iRg3, asRg3, sFor, sWhile, dComp, wipeR,
 i_add, i_op0, i_op, i_eq, i_ne, s_eq, s_ne, s_add, l_ix, t_ix, l_add, l_cat, i_int, b_int, i_abs, l_len, t_len, r_len, s_len, i_str, i_max, i_min, oNeg, atI_0, atI_1, atI_2, atI_3, atI_m1, ixNL_0, ixNL_1, ixNL_2, ixNL_3,
 get_0, get_1, get_2, get_3, get_4, get_5, get_6, get_7, get_8, get_9, set_0, set_1, set_2, set_3, set_4, set_5, set_6, set_7, set_8, set_9, isT_tup, isT_str, isT_int, isT_bool, isT_lst, isC_ok, Bool.not_true, Bool.not_false, ln_0, ln_1, ln_2, ln_3, ln_4, lm_0, lm_1, lm_2, lm_3, lm_4, lm_5, lm_6, Option.bind_some, Option.bind_none, true_and, and_true, eq_self, ioIs, ite_and, if_true, if_false, ite_true, ite_false, reduceIte, Bool.false_eq_true, reduceCtorEq, decide_eq_true_eq, cdec_eq, cdec_ne, beq_iff_eq, Bool.not_eq_true']
      refine leaf_wp hw h2 fun t f3 ht h2' h3 => ?_
      try simp only [wpS_seq, wpS_next, wpS_if, wpS_ite, wpS_thn, wpS_ret, wpS_retO, wpS_drop, wpS_bad, wpS_nx, wpS_rt, wpS_sbad, wpS_ofO, wpS_frz', wpR_ok, wpR_bad, wpR_bind, wpR_ite, wpO_ok, wpO_bad, wpO_ite, wpO_toR, wpO_toR', wpO_toRO, wpX_ok, wpX_exc, wpX_bad, wpX_ite, wpX_ofD, wpX_noExc, wpO_ofD, wp_toRO1, wpR_noExc,
 sAsg, sAsgO, sOwnSet, sPar, putFro_if, putOwn_if, sto_no, sto_fro, sto_own, frz, dVar, dC, dOp, dUn, dLs, aNil, aCons, dB, asB, dAnd, dOr, dNot, dAndV, dOrV, dNotV, dIfE, dTru, ofB, dFr, dMove, dTup, dLsO, opLst, dSl, pNone, pSome, asI, dOwnIx, ownL, dOwnLen, dOwnSl, dAppend, dPop, dCall0, dCall1, DL.call1, dMeth0, isC, wp_make, List.append_nil, dFld, oFldN, dOwnFld, sOwnFld, sf_00, sf_11, sf_22, sf_33, sf_0, sf_1, sf_2, sf_3, ownI, dCatO, iLst, asL, iRg, asRg, iRg3, asRg3, sFor, sWhile, dComp, wipeR,
 i_add, i_op0, i_op, i_eq, i_ne, s_eq, s_ne, s_add, l_ix, t_ix, l_add, l_cat, i_int, b_int, i_abs, l_len, t_len, r_len, s_len, i_str, i_max, i_min, oNeg, atI_0, atI_1, atI_2, atI_3, atI_m1, ixNL_0, ixNL_1, ixNL_2, ixNL_3,
 get_0, get_1, get_2, get_3, get_4, get_5, get_6, get_7, get_8, get_9, set_0, set_1, set_2, set_3, set_4, set_5, set_6, set_7, set_8, set_9, isT_tup, isT_str, isT_int, isT_bool, isT_lst, isC_ok, Bool.not_true, Bool.not_false, ln_0, ln_1, ln_2, ln_3, ln_4, lm_0, lm_1, lm_2, lm_3, lm_4, lm_5, lm_6, Option.bind_some, Option.bind_none, true_and, and_true, eq_self, ioIs, ite_and, if_true, if_false, ite_true, ite_false, reduceIte, Bool.false_eq_true, reduceCtorEq, decide_eq_true_eq, cdec_eq, cdec_ne, beq_iff_eq, Bool.not_eq_true']
      refine ⟨f3, ts ++ [t], h3, by rw [List.length_append, hl]; rfl, fun u hu => ?_, by rw [wts_app, wts_cons, wts_nil, hs, h2']; omega, by simp, rfl⟩
      rcases List.mem_append.mp hu with hu | hu
      · exact ok u hu
      · rw [List.mem_singleton.mp hu]; exact ht
    · rintro _ _ ⟨f2, ts, h2, hl, ok, hs, rfl, rfl⟩
      try simp only [wpS_seq, wpS_next, wpS_if, wpS_ite, wpS_thn, wpS_ret, wpS_retO, wpS_drop, wpS_bad, wpS_nx, wpS_rt, wpS_sbad, wpS_ofO, wpS_frz', wpR_ok, wpR_bad, wpR_bind, wpR_ite, wpO_ok, wpO_bad, wpO_ite, wpO_toR, wpO_toR', wpO_toRO, wpX_ok, wpX_exc, wpX_bad, wpX_ite, wpX_ofD, wpX_noExc, wpO_ofD, wp_toRO1, wpR_noExc,
 sAsg, sAsgO, sOwnSet, sPar, putFro_if, putOwn_if, sto_no, sto_fro, sto_own, frz, dVar, dC, dOp, dUn, dLs, aNil, aCons, dB, asB, dAnd, dOr, dNot, dAndV, dOrV, dNotV, dIfE, dTru, ofB, dFr, dMove, dTup, dLsO, opLst, dSl, pNone, pSome, asI, dOwnIx, ownL, dOwnLen, dOwnSl, dAppend, dPop, dCall0, dCall1, DL.call1, dMeth0, isC, wp_make, List.append_nil, dFld, oFldN, dOwnFld, sOwnFld, sf_00, sf_11, sf_22, sf_33, sf_0, sf_1, sf_2, sf_3, ownI, dCatO, iLst, asL, iRg, asRg, iRg3, asRg3, sFor, sWhile, dComp, wipeR,
 i_add, i_op0, i_op, i_eq, i_ne, s_eq, s_ne, s_add, l_ix, t_ix, l_add, l_cat, i_int, b_int, i_abs, l_len, t_len, r_len, s_len, i_str, i_max, i_min, oNeg, atI_0, atI_1, atI_2, atI_3, atI_m1, ixNL_0, ixNL_1, ixNL_2, ixNL_3,
 get_0, get_1, get_2, get_3, get_4, get_5, get_6, get_7, get_8, get_9, set_0, set_1, set_2, set_3, set_4, set_5, set_6, set_7, set_8, set_9, isT_tup, isT_str, isT_int, isT_bool, isT_lst, isC_ok, Bool.not_true, Bool.not_false, ln_0, ln_1, ln_2, ln_3, ln_4, lm_0, lm_1, lm_2, lm_3, lm_4, lm_5, lm_6, Option.bind_some, Option.bind_none, true_and, and_true, eq_self, ioIs, ite_and, if_true, if_false, ite_true, ite_false, reduceIte, Bool.false_eq_true, reduceCtorEq, decide_eq_true_eq, cdec_eq, cdec_ne, beq_iff_eq, Bool.not_eq_true']
      rw [rgD_length] at hl hs
      refine ⟨f2, ts, h2, fun e => ?_, ok, by omega, rfl⟩
      rw [e] at hl
      simp at hl
      omega
  · rintro _ ⟨f1, ts, h1, hne, ok, hs, rfl⟩
    refine wp_cut (fun ρ => ∃ f' ts s4 s5, FdOk f' ∧ ts ≠ [] ∧ (∀ t ∈ ts, TmOk t) ∧ wts ts ≤ 29 ∧ ρ = [.own true 1 (fdD f'), .fro (.int w), .own false 1 (.lst (ts.map tmD)), .no, s4, s5]) ?_ ?_
    · try simp only [wpS_seq, wpS_next, wpS_if, wpS_ite, wpS_thn, wpS_ret, wpS_retO, wpS_drop, wpS_bad, wpS_nx, wpS_rt, wpS_sbad, wpS_ofO, wpS_frz', wpR_ok, wpR_bad, wpR_bind, wpR_ite, wpO_ok, wpO_bad, wpO_ite, wpO_toR, wpO_toR', wpO_toRO, wpX_ok, wpX_exc, wpX_bad, wpX_ite, wpX_ofD, wpX_noExc, wpO_ofD, wp_toRO1, wpR_noExc,
 sAsg, sAsgO, sOwnSet, sPar, putFro_if, putOwn_if, sto_no, sto_fro, sto_own, frz, dVar, dC, dOp, dUn, dLs, aNil, aCons, dB, asB, dAnd, dOr, dNot, dAndV, dOrV, dNotV, dIfE, dTru, ofB, dFr, dMove, dTup, dLsO, opLst, dSl, pNone, pSome, asI, dOwnIx, ownL, dOwnLen, dOwnSl, dAppend, dPop, dCall0, dCall1, DL.call1, dMeth0, isC, wp_make, List.append_nil, dFld, oFldN, dOwnFld, sOwnFld, sf_00, sf_11, sf_22, sf_33, sf_0, sf_1, sf_2, sf_3, ownI, dCatO, iLst, asL, iRg, asRg, iRg3, asRg3, sFor, sWhile, dComp, wipeR,
 i_add, i_op0, i_op, i_eq, i_ne, s_eq, s_ne, s_add, l_ix, t_ix, l_add, l_cat, i_int, b_int, i_abs, l_len, t_len, r_len, s_len, i_str, i_max, i_min, oNeg, atI_0, atI_1, atI_2, atI_3, atI_m1, ixNL_0, ixNL_1, ixNL_2, ixNL_3,
 get_0, get_1, get_2, get_3, get_4, get_5, get_6, get_7, get_8, get_9, set_0, set_1, set_2, set_3, set_4, set_5, set_6, set_7, set_8, set_9, isT_tup, isT_str, isT_int, isT_bool, isT_lst, isC_ok, Bool.not_true, Bool.not_false, ln_0, ln_1, ln_2, ln_3, ln_4, lm_0, lm_1, lm_2, lm_3, lm_4, lm_5, lm_6, Option.bind_some, Option.bind_none, true_and, and_true, eq_self, ioIs, ite_and, if_true, if_false, ite_true, ite_false, reduceIte, Bool.false_eq_true, reduceCtorEq, decide_eq_true_eq, cdec_eq, cdec_ne, beq_iff_eq, Bool.not_eq_true', rgOk_small (a := 0) (b := 9) (by decide) (by decide) (by decide) (by decide)]
      refine wp_for (fun i ρ => ∃ f' ts s4 s5, stoOk (some s4) = true ∧ stoOk (some s5) = true ∧ FdOk f' ∧ ts ≠ [] ∧ (∀ t ∈ ts, TmOk t) ∧ wts ts ≤ 20 + i ∧ ρ = [.own true 1 (fdD f'), .fro (.int w), .own false 1 (.lst (ts.map tmD)), .no, s4, s5]) _ 0 _ ⟨f1, ts, _, _, rfl, rfl, h1, hne, ok, hs, rfl⟩ ?_ ?_
      · rintro i x _ hx ⟨f2, ts, s4, s5, z4, z5, h2, hne, ok, hs, rfl⟩
        have hi : i < 9 := by have := (rgD_get hx).1; omega
        refine ⟨_, putFro_ok z4, ?_⟩
        rw [Nat.zero_add] at hs ⊢
        refine wp_cut (fun ρ => ∃ f' ts s5, stoOk (some s5) = true ∧ FdOk f' ∧ ts ≠ [] ∧ (∀ t ∈ ts, TmOk t) ∧ wts ts ≤ 21 + i ∧ ρ = [.own true 1 (fdD f'), .fro (.int w), .own false 1 (.lst (ts.map tmD)), .no, .fro x, s5]) ?_ ?_
        · try simp only [wpS_seq, wpS_next, wpS_if, wpS_ite, wpS_thn, wpS_ret, wpS_retO, wpS_drop, wpS_bad, wpS_nx, wpS_rt, wpS_sbad, wpS_ofO, wpS_frz', wpR_ok, wpR_bad, wpR_bind, wpR_ite, wpO_ok, wpO_bad, wpO_ite, wpO_toR, wpO_toR', wpO_toRO, wpX_ok, wpX_exc, wpX_bad, wpX_ite, wpX_ofD, wpX_noExc, wpO_ofD, wp_toRO1, wpR_noExc,
 sAsg, sAsgO, sOwnSet, sPar, putFro_if, putOwn_if, sto_no, sto_fro, sto_own, frz, dVar, dC, dOp, dUn, dLs, aNil, aCons, dB, asB, dAnd, dOr, dNot, dAndV, dOrV, dNotV, dIfE, dTru, ofB, dFr, dMove, dTup, dLsO, opLst, dSl, pNone, pSome, asI, dOwnIx, ownL, dOwnLen, dOwnSl, dAppend, dPop, dCall0, dCall1, DL.call1, dMeth0, isC, wp_make, List.append_nil, dFld, oFldN, dOwnFld, sOwnFld, sf_00, sf_11, sf_22, sf_33, sf_0, sf_1, sf_2, sf_3, ownI, dCatO, iLst, asL, iRg, asRg, iRg3, asRg3, sFor, sWhile, dComp, wipeR,
 i_add, i_op0, i_op, i_eq, i_ne, s_eq, s_ne, s_add, l_ix, t_ix, l_add, l_cat, i_int, b_int, i_abs, l_len, t_len, r_len, s_len, i_str, i_max, i_min, oNeg, atI_0, atI_1, atI_2, atI_3, atI_m1, ixNL_0, ixNL_1, ixNL_2, ixNL_3,
 get_0, get_1, get_2, get_3, get_4, get_5, get_6, get_7, get_8, get_9, set_0, set_1, set_2, set_3, set_4, set_5, set_6, set_7, set_8, set_9, isT_tup, isT_str, isT_int, isT_bool, isT_lst, isC_ok, Bool.not_true, Bool.not_false, ln_0, ln_1, ln_2, ln_3, ln_4, lm_0, lm_1, lm_2, lm_3, lm_4, lm_5, lm_6, Option.bind_some, Option.bind_none, true_and, and_true, eq_self, ioIs, ite_and, if_true, if_false, ite_true, ite_false, reduceIte, Bool.false_eq_true, reduceCtorEq, decide_eq_true_eq, cdec_eq, cdec_ne, beq_iff_eq, Bool.not_eq_true']
          refine draw_wp h2 (by decide) (by decide) fun r f3 r0 r1 h3 => ?_
          try simp only [wpS_seq, wpS_next, wpS_if, wpS_ite, wpS_thn, wpS_ret, wpS_retO, wpS_drop, wpS_bad, wpS_nx, wpS_rt, wpS_sbad, wpS_ofO, wpS_frz', wpR_ok, wpR_bad, wpR_bind, wpR_ite, wpO_ok, wpO_bad, wpO_ite, wpO_toR, wpO_toR', wpO_toRO, wpX_ok, wpX_exc, wpX_bad, wpX_ite, wpX_ofD, wpX_noExc, wpO_ofD, wp_toRO1, wpR_noExc,
 sAsg, sAsgO, sOwnSet, sPar, putFro_if, putOwn_if, sto_no, sto_fro, sto_own, frz, dVar, dC, dOp, dUn, dLs, aNil, aCons, dB, asB, dAnd, dOr, dNot, dAndV, dOrV, dNotV, dIfE, dTru, ofB, dFr, dMove, dTup, dLsO, opLst, dSl, pNone, pSome, asI, dOwnIx, ownL, dOwnLen, dOwnSl, dAppend, dPop, dCall0, dCall1, DL.call1, dMeth0, isC, wp_make, List.append_nil, dFld, oFldN, dOwnFld, sOwnFld, sf_00, sf_11, sf_22, sf_33, sf_0, sf_1, sf_2, sf_3, ownI, dCatO, iLst, asL, iRg, asRg, iRg3, asRg3, sFor, sWhile, dComp, wipeR,
 i_add, i_op0, i_op, i_eq, i_ne, s_eq, s_ne, s_add, l_ix, t_ix, l_add, l_cat, i_int, b_int, i_abs, l_len, t_len, r_len, s_len, i_str, i_max, i_min, oNeg, atI_0, atI_1, atI_2, atI_3, atI_m1, ixNL_0, ixNL_1, ixNL_2, ixNL_3,
 get_0, get_1, get_2, get_3, get_4, get_5, get_6, get_7, get_8, get_9, set_0, set_1, set_2, set_3, set_4, set_5, set_6, set_7, set_8, set_9, isT_tup, isT_str, isT_int, isT_bool, isT_lst, isC_ok, Bool.not_true, Bool.not_false, ln_0, ln_1, ln_2, ln_3, ln_4, lm_0, lm_1, lm_2, lm_3, lm_4, lm_5, lm_6, Option.bind_some, Option.bind_none, true_and, and_true, eq_self, ioIs, ite_and, if_true, if_false, ite_true, ite_false, reduceIte, Bool.false_eq_true, reduceCtorEq, decide_eq_true_eq, cdec_eq, cdec_ne, beq_iff_eq, Bool.not_eq_true']
          by_cases c : r = 0
          · rw [if_pos c]
            have hl := wts_len ts
            have hl0 : 0 < ts.length := List.length_pos_iff.mpr hne
            refine draw_wp h3 (by rw [List.length_map]; omega) (by rw [List.length_map]; omega) fun r f4 r0 r1 h4 => ?_
            rw [List.length_map] at r1
            obtain ⟨l1, u, l2, e1, e2, e3⟩ := map_split1 (ts := ts) (n := r.toNat) (by omega)
            try simp only [wpS_seq, wpS_next, wpS_if, wpS_ite, wpS_thn, wpS_ret, wpS_retO, wpS_drop, wpS_bad, wpS_nx, wpS_rt, wpS_sbad, wpS_ofO, wpS_frz', wpR_ok, wpR_bad, wpR_bind, wpR_ite, wpO_ok, wpO_bad, wpO_ite, wpO_toR, wpO_toR', wpO_toRO, wpX_ok, wpX_exc, wpX_bad, wpX_ite, wpX_ofD, wpX_noExc, wpO_ofD, wp_toRO1, wpR_noExc,
 sAsg, sAsgO, sOwnSet, sPar, putFro_if, putOwn_if, sto_no, sto_fro, sto_own, frz, dVar, dC, dOp, dUn, dLs, aNil, aCons, dB, asB, dAnd, dOr, dNot, dAndV, dOrV, dNotV, dIfE, dTru, ofB, dFr, dMove, dTup, dLsO, opLst, dSl, pNone, pSome, asI, dOwnIx, ownL, dOwnLen, dOwnSl, dAppend, dPop, dCall0, dCall1, DL.call1, dMeth0, isC, wp_make, List.append_nil, dFld, oFldN, dOwnFld, sOwnFld, sf_00, sf_11, sf_22, sf_33, sf_0, sf_1, sf_2, sf_3, ownI, dCatO, iLst, asL, iRg, asRg, iRg3, asRg3, sFor, sWhile, dComp, wipeR,
 i_add, i_op0, i_op, i_eq, i_ne, s_eq, s_ne, s_add, l_ix, t_ix, l_add, l_cat, i_int, b_int, i_abs, l_len, t_len, r_len, s_len, i_str, i_max, i_min, oNeg, atI_0, atI_1, atI_2, atI_3, atI_m1, ixNL_0, ixNL_1, ixNL_2, ixNL_3,
 get_0, get_1, get_2, get_3, get_4, get_5, get_6, get_7, get_8, get_9, set_0, set_1, set_2, set_3, set_4, set_5, set_6, set_7, set_8, set_9, isT_tup, isT_str, isT_int, isT_bool, isT_lst, isC_ok, Bool.not_true, Bool.not_false, ln_0, ln_1, ln_2, ln_3, ln_4, lm_0, lm_1, lm_2, lm_3, lm_4, lm_5, lm_6, Option.bind_some, Option.bind_none, true_and, and_true, eq_self, ioIs, ite_and, if_true, if_false, ite_true, ite_false, reduceIte, Bool.false_eq_true, reduceCtorEq, decide_eq_true_eq, cdec_eq, cdec_ne, beq_iff_eq, Bool.not_eq_true', z5, e2, atI_mid (show ((l1.map tmD).length : Int) = r by omega), ixN_mid (show ((l1.map tmD).length : Int) = r by omega), set_mid]
            refine ⟨f4, l1 ++ .star u :: l2, _, rfl, h4, by simp, fun t ht => ?_, ?_, by rw [List.map_append, List.map_cons]; rfl⟩
            · rw [e1] at ok
              rcases List.mem_append.mp ht with ht | ht
              · exact ok t (List.mem_append_left _ ht)
              · rcases List.mem_cons.mp ht with rfl | ht
                · exact ok u (List.mem_append_right _ List.mem_cons_self)
                · exact ok t (List.mem_append_right _ (List.mem_cons_of_mem _ ht))
            · rw [e1, wts_app, wts_cons] at hs
              rw [wts_app, wts_cons]
              show wts l1 + (wt u + 1 + wts l2) ≤ _
              omega
          · rw [if_neg c]
            exact ⟨f3, ts, s5, z5, h3, hne, ok, by omega, rfl⟩
        · rintro _ ⟨f3, ts, s5, z5, h3, hne, ok, hs, rfl⟩
          try simp only [wpS_seq, wpS_next, wpS_if, wpS_ite, wpS_thn, wpS_ret, wpS_retO, wpS_drop, wpS_bad, wpS_nx, wpS_rt, wpS_sbad, wpS_ofO, wpS_frz', wpR_ok, wpR_bad, wpR_bind, wpR_ite, wpO_ok, wpO_bad, wpO_ite, wpO_toR, wpO_toR', wpO_toRO, wpX_ok, wpX_exc, wpX_bad, wpX_ite, wpX_ofD, wpX_noExc, wpO_ofD, wp_toRO1, wpR_noExc,
 sAsg, sAsgO, sOwnSet, sPar, putFro_if, putOwn_if, sto_no, sto_fro, sto_own, frz, dVar, dC, dOp, dUn, dLs, aNil, aCons, dB, asB, dAnd, dOr, dNot, dAndV, dOrV, dNotV, dIfE, dTru, ofB, dFr, dMove, dTup, dLsO, opLst, dSl, pNone, pSome, asI, dOwnIx, ownL, dOwnLen, dOwnSl, dAppend, dPop, dCall0, dCall1, DL.call1, dMeth0, isC, wp_make, List.append_nil, dFld, oFldN, dOwnFld, sOwnFld, sf_00, sf_11, sf_22, sf_33, sf_0, sf_1, sf_2, sf_3, ownI, dCatO, iLst, asL, iRg, asRg, iRg3, asRg3, sFor, sWhile, dComp, wipeR,
 i_add, i_op0, i_op, i_eq, i_ne, s_eq, s_ne, s_add, l_ix, t_ix, l_add, l_cat, i_int, b_int, i_abs, l_len, t_len, r_len, s_len, i_str, i_max, i_min, oNeg, atI_0, atI_1, atI_2, atI_3, atI_m1, ixNL_0, ixNL_1, ixNL_2, ixNL_3,
 get_0, get_1, get_2, get_3, get_4, get_5, get_6, get_7, get_8, get_9, set_0, set_1, set_2, set_3, set_4, set_5, set_6, set_7, set_8, set_9, isT_tup, isT_str, isT_int, isT_bool, isT_lst, isC_ok, Bool.not_true, Bool.not_false, ln_0, ln_1, ln_2, ln_3, ln_4, lm_0, lm_1, lm_2, lm_3, lm_4, lm_5, lm_6, Option.bind_some, Option.bind_none, true_and, and_true, eq_self, ioIs, ite_and, if_true, if_false, ite_true, ite_false, reduceIte, Bool.false_eq_true, reduceCtorEq, decide_eq_true_eq, cdec_eq, cdec_ne, beq_iff_eq, Bool.not_eq_true']
          by_cases c : (1 : Int) < (List.map tmD ts).length
          · rw [if_pos c]
            rw [List.length_map] at c
            have hl := wts_len ts
            refine draw_wp h3 (by rw [List.length_map]; omega) (by rw [List.length_map]; omega) fun r f4 r0 r1 h4 => ?_
            rw [List.length_map] at r1
            obtain ⟨l1, u, v, l2, e1, e2, e3⟩ := map_split2 (ts := ts) (n := r.toNat) (by omega)
            have k1 : ((l1.map tmD).length : Int) = r := by omega
            try simp only [wpS_seq, wpS_next, wpS_if, wpS_ite, wpS_thn, wpS_ret, wpS_retO, wpS_drop, wpS_bad, wpS_nx, wpS_rt, wpS_sbad, wpS_ofO, wpS_frz', wpR_ok, wpR_bad, wpR_bind, wpR_ite, wpO_ok, wpO_bad, wpO_ite, wpO_toR, wpO_toR', wpO_toRO, wpX_ok, wpX_exc, wpX_bad, wpX_ite, wpX_ofD, wpX_noExc, wpO_ofD, wp_toRO1, wpR_noExc,
 sAsg, sAsgO, sOwnSet, sPar, putFro_if, putOwn_if, sto_no, sto_fro, sto_own, frz, dVar, dC, dOp, dUn, dLs, aNil, aCons, dB, asB, dAnd, dOr, dNot, dAndV, dOrV, dNotV, dIfE, dTru, ofB, dFr, dMove, dTup, dLsO, opLst, dSl, pNone, pSome, asI, dOwnIx, ownL, dOwnLen, dOwnSl, dAppend, dPop, dCall0, dCall1, DL.call1, dMeth0, isC, wp_make, List.append_nil, dFld, oFldN, dOwnFld, sOwnFld, sf_00, sf_11, sf_22, sf_33, sf_0, sf_1, sf_2, sf_3, ownI, dCatO, iLst, asL, iRg, asRg, iRg3, asRg3, sFor, sWhile, dComp, wipeR,
 i_add, i_op0, i_op, i_eq, i_ne, s_eq, s_ne, s_add, l_ix, t_ix, l_add, l_cat, i_int, b_int, i_abs, l_len, t_len, r_len, s_len, i_str, i_max, i_min, oNeg, atI_0, atI_1, atI_2, atI_3, atI_m1, ixNL_0, ixNL_1, ixNL_2, ixNL_3,
 get_0, get_1, get_2, get_3, get_4, get_5, get_6, get_7, get_8, get_9, set_0, set_1, set_2, set_3, set_4, set_5, set_6, set_7, set_8, set_9, isT_tup, isT_str, isT_int, isT_bool, isT_lst, isC_ok, Bool.not_true, Bool.not_false, ln_0, ln_1, ln_2, ln_3, ln_4, lm_0, lm_1, lm_2, lm_3, lm_4, lm_5, lm_6, Option.bind_some, Option.bind_none, true_and, and_true, eq_self, ioIs, ite_and, if_true, if_false, ite_true, ite_false, reduceIte, Bool.false_eq_true, reduceCtorEq, decide_eq_true_eq, cdec_eq, cdec_ne, beq_iff_eq, Bool.not_eq_true', z5, e2, cut_pre k1, atI_mid k1, atI_mid1 (show ((l1.map tmD).length : Int) + 1 = r + 1 by omega)]
            have e4 : cutD (List.map tmD l1 ++ tmD u :: tmD v :: List.map tmD l2) (some (r + 2)) none = l2.map tmD := by
              rw [show List.map tmD l1 ++ tmD u :: tmD v :: List.map tmD l2 = (List.map tmD l1 ++ [tmD u, tmD v]) ++ List.map tmD l2 by simp]
              exact cut_post (by rw [List.length_append]; simp only [List.length_cons, List.length_nil]; omega)
            rw [e4]
            have hu := ok u (by rw [e1]; simp)
            have hv := ok v (by rw [e1]; simp)
            have hs' := hs
            rw [e1, wts_app, wts_cons, wts_cons] at hs
            have hL : ts.length = l1.length + (l2.length + 1 + 1) := by rw [e1]; simp
            refine joined_wp h4 hu hv fun y f5 hy hy2 h5 => ⟨len_le (by simp only [List.length_map, List.length_cons, List.length_nil]; omega), len_le (by simp only [List.length_append, List.length_map, List.length_cons, List.length_nil]; omega), f5, l1 ++ y :: l2, .fro x, .fro (.int r), rfl, rfl, h5, by simp, fun t ht => ?_, ?_, by simp⟩
            · rw [e1] at ok
              rcases List.mem_append.mp ht with ht | ht
              · exact ok t (List.mem_append_left _ ht)
              · rcases List.mem_cons.mp ht with rfl | ht
                · exact hy
                · exact ok t (List.mem_append_right _ (List.mem_cons_of_mem _ (List.mem_cons_of_mem _ ht)))
            · rw [wts_app, wts_cons, hy2]; omega
          · rw [if_neg c]
            exact ⟨f3, ts, _, s5, rfl, z5, h3, hne, ok, by omega, rfl⟩
      · rintro _ ⟨f2, ts, s4, s5, z4, z5, h2, hne, ok, hs, rfl⟩
        exact ⟨f2, ts, _, _, h2, hne, ok, by rw [rgD_length] at hs; omega, rfl⟩
    · rintro _ ⟨f2, ts, s4, s5, h2, hne, ok, hs, rfl⟩
      cases ts with
      | nil => exact absurd rfl hne
      | cons t ts =>
        try simp only [wpS_seq, wpS_next, wpS_if, wpS_ite, wpS_thn, wpS_ret, wpS_retO, wpS_drop, wpS_bad, wpS_nx, wpS_rt, wpS_sbad, wpS_ofO, wpS_frz', wpR_ok, wpR_bad, wpR_bind, wpR_ite, wpO_ok, wpO_bad, wpO_ite, wpO_toR, wpO_toR', wpO_toRO, wpX_ok, wpX_exc, wpX_bad, wpX_ite, wpX_ofD, wpX_noExc, wpO_ofD, wp_toRO1, wpR_noExc,
 sAsg, sAsgO, sOwnSet, sPar, putFro_if, putOwn_if, sto_no, sto_fro, sto_own, frz, dVar, dC, dOp, dUn, dLs, aNil, aCons, dB, asB, dAnd, dOr, dNot, dAndV, dOrV, dNotV, dIfE, dTru, ofB, dFr, dMove, dTup, dLsO, opLst, dSl, pNone, pSome, asI, dOwnIx, ownL, dOwnLen, dOwnSl, dAppend, dPop, dCall0, dCall1, DL.call1, dMeth0, isC, wp_make, List.append_nil, dFld, oFldN, dOwnFld, sOwnFld, sf_00, sf_11, sf_22, sf_33, sf_0, sf_1, sf_2, sf_3, ownI, dCatO, iLst, asL, iRg, asRg, iRg3, asRg3, sFor, sWhile, dComp, wipeR,
 i_add, i_op0, i_op, i_eq, i_ne, s_eq, s_ne, s_add, l_ix, t_ix, l_add, l_cat, i_int, b_int, i_abs, l_len, t_len, r_len, s_len, i_str, i_max, i_min, oNeg, atI_0, atI_1, atI_2, atI_3, atI_m1, ixNL_0, ixNL_1, ixNL_2, ixNL_3,
 get_0, get_1, get_2, get_3, get_4, get_5, get_6, get_7, get_8, get_9, set_0, set_1, set_2, set_3, set_4, set_5, set_6, set_7, set_8, set_9, isT_tup, isT_str, isT_int, isT_bool, isT_lst, isC_ok, Bool.not_true, Bool.not_false, ln_0, ln_1, ln_2, ln_3, ln_4, lm_0, lm_1, lm_2, lm_3, lm_4, lm_5, lm_6, Option.bind_some, Option.bind_none, true_and, and_true, eq_self, ioIs, ite_and, if_true, if_false, ite_true, ite_false, reduceIte, Bool.false_eq_true, reduceCtorEq, decide_eq_true_eq, cdec_eq, cdec_ne, beq_iff_eq, Bool.not_eq_true', List.map_cons]
        rw [wts_cons] at hs
        exact q t f2 (ok t List.mem_cons_self) (by omega) h2
/-- a chain -/
theorem chain_wp {f : Fd} {w m : Int} (hw : w = 0 ∨ w = 8) (hm0 : 0 ≤ m) (hm : m < 20) {Q : D → D → Prop} {Z : Nat → D → Prop} (h : FdOk f) (q : ∀ t f', TmOk t → wt t ≤ 60 → FdOk f' → Q (tmD t) (fdD f')) : (fn_law_chain (fdD f) [.int w, .int m]).wpX Q Z := by
  unfold fn_law_chain bd_law_chain
  rw [wp_fn1, show initR1 6 1 (fdD f) [.int w, .int m] = [.own true 1 (fdD f), .fro (.int w), .fro (.int m), .no, .no, .no] from rfl]
  refine wp_cut (fun ρ => ∃ f' t, FdOk f' ∧ TmOk t ∧ wt t = 2 ∧ ρ = [.own true 1 (fdD f'), .fro (.int w), .fro (.int m), .fro (tmD t), .no, .no]) ?_ ?_
  · try simp only [wpS_seq, wpS_next, wpS_if, wpS_ite, wpS_thn, wpS_ret, wpS_retO, wpS_drop, wpS_bad, wpS_nx, wpS_rt, wpS_sbad, wpS_ofO, wpS_frz', wpR_ok, wpR_bad, wpR_bind, wpR_ite, wpO_ok, wpO_bad, wpO_ite, wpO_toR, wpO_toR', wpO_toRO, wpX_ok, wpX_exc, wpX_bad, wpX_ite, wpX_ofD, wpX_noExc, wpO_ofD, wp_toRO1, wpR_noExc,
 sAsg, sAsgO, sOwnSet, sPar, putFro_if, putOwn_if, sto_no, sto_fro, sto_own, frz, dVar, dC, dOp, dUn, dLs, aNil, aCons, dB, asB, dAnd, dOr, dNot, dAndV, dOrV, dNotV, dIfE, dTru, ofB, dFr, dMove, dTup, dLsO, opLst, dSl, pNone, pSome, asI, dOwnIx, ownL, dOwnLen, dOwnSl, dAppend, dPop, dCall0, dCall1, DL.call1, dMeth0, isC, wp_make, List.append_nil, dFld, oFldN, dOwnFld, sOwnFld, sf_00, sf_11, sf_22, sf_33, sf_0, sf_1, sf_2, sf_3, ownI, dCatO, iLst, asL, iRg, asRg, iRg3, asRg3, sFor, sWhile, dComp, wipeR,
 i_add, i_op0, i_op, i_eq, i_ne, s_eq, s_ne, s_add, l_ix, t_ix, l_add, l_cat, i_int, b_int, i_abs, l_len, t_len, r_len, s_len, i_str, i_max, i_min, oNeg, atI_0, atI_1, atI_2, atI_3, atI_m1, ixNL_0, ixNL_1, ixNL_2, ixNL_3,
 get_0, get_1, get_2, get_3, get_4, get_5, get_6, get_7, get_8, get_9, set_0, set_1, set_2, set_3, set_4, set_5, set_6, set_7, set_8, set_9, isT_tup, isT_str, isT_int, isT_bool, isT_lst, isC_ok, Bool.not_true, Bool.not_false, ln_0, ln_1, ln_2, ln_3, ln_4, lm_0, lm_1, lm_2, lm_3, lm_4, lm_5, lm_6, Option.bind_some, Option.bind_none, true_and, and_true, eq_self, ioIs, ite_and, if_true, if_false, ite_true, ite_false, reduceIte, Bool.false_eq_true, reduceCtorEq, decide_eq_true_eq, cdec_eq, cdec_ne, beq_iff_eq, Bool.not_eq_true']
    refine leaf_wp hw h fun t f1 ht h2 h1 => ?_
    try simp only [wpS_seq, wpS_next, wpS_if, wpS_ite, wpS_thn, wpS_ret, wpS_retO, wpS_drop, wpS_bad, wpS_nx, wpS_rt, wpS_sbad, wpS_ofO, wpS_frz', wpR_ok, wpR_bad, wpR_bind, wpR_ite, wpO_ok, wpO_bad, wpO_ite, wpO_toR, wpO_toR', wpO_toRO, wpX_ok, wpX_exc, wpX_bad, wpX_ite, wpX_ofD, wpX_noExc, wpO_ofD, wp_toRO1, wpR_noExc,
 sAsg, sAsgO, sOwnSet, sPar, putFro_if, putOwn_if, sto_no, sto_fro, sto_own, frz, dVar, dC, dOp, dUn, dLs, aNil, aCons, dB, asB, dAnd, dOr, dNot, dAndV, dOrV, dNotV, dIfE, dTru, ofB, dFr, dMove, dTup, dLsO, opLst, dSl, pNone, pSome, asI, dOwnIx, ownL, dOwnLen, dOwnSl, dAppend, dPop, dCall0, dCall1, DL.call1, dMeth0, isC, wp_make, List.append_nil, dFld, oFldN, dOwnFld, sOwnFld, sf_00, sf_11, sf_22, sf_33, sf_0, sf_1, sf_2, sf_3, ownI, dCatO, iLst, asL, iRg, asRg, iRg3, asRg3, sFor, sWhile, dComp, wipeR,
 i_add, i_op0, i_op, i_eq, i_ne, s_eq, s_ne, s_add, l_ix, t_ix, l_add, l_cat, i_int, b_int, i_abs, l_len, t_len, r_len, s_len, i_str, i_max, i_min, oNeg, atI_0, atI_1, atI_2, atI_3, atI_m1, ixNL_0, ixNL_1, ixNL_2, ixNL_3,
 get_0, get_1, get_2, get_3, get_4, get_5, get_6, get_7, get_8, get_9, set_0, set_1, set_2, set_3, set_4, set_5, set_6, set_7, set_8, set_9, isT_tup, isT_str, isT_int, isT_bool, isT_lst, isC_ok, Bool.not_true, Bool.not_false, ln_0, ln_1, ln_2, ln_3, ln_4, lm_0, lm_1, lm_2, lm_3, lm_4, lm_5, lm_6, Option.bind_some, Option.bind_none, true_and, and_true, eq_self, ioIs, ite_and, if_true, if_false, ite_true, ite_false, reduceIte, Bool.false_eq_true, reduceCtorEq, decide_eq_true_eq, cdec_eq, cdec_ne, beq_iff_eq, Bool.not_eq_true']
    exact ⟨f1, t, h1, ht, h2, rfl⟩
  · rintro _ ⟨f1, t, h1, ht, h2, rfl⟩
    refine wp_cut (fun ρ => ∃ f' t s4 s5, FdOk f' ∧ TmOk t ∧ wt t ≤ 60 ∧ ρ = [.own true 1 (fdD f'), .fro (.int w), .fro (.int m), .fro (tmD t), s4, s5]) ?_ ?_
    · try simp only [wpS_seq, wpS_next, wpS_if, wpS_ite, wpS_thn, wpS_ret, wpS_retO, wpS_drop, wpS_bad, wpS_nx, wpS_rt, wpS_sbad, wpS_ofO, wpS_frz', wpR_ok, wpR_bad, wpR_bind, wpR_ite, wpO_ok, wpO_bad, wpO_ite, wpO_toR, wpO_toR', wpO_toRO, wpX_ok, wpX_exc, wpX_bad, wpX_ite, wpX_ofD, wpX_noExc, wpO_ofD, wp_toRO1, wpR_noExc,
 sAsg, sAsgO, sOwnSet, sPar, putFro_if, putOwn_if, sto_no, sto_fro, sto_own, frz, dVar, dC, dOp, dUn, dLs, aNil, aCons, dB, asB, dAnd, dOr, dNot, dAndV, dOrV, dNotV, dIfE, dTru, ofB, dFr, dMove, dTup, dLsO, opLst, dSl, pNone, pSome, asI, dOwnIx, ownL, dOwnLen, dOwnSl, dAppend, dPop, dCall0, dCall1, DL.call1, dMeth0, isC, wp_make, List.append_nil, dFld, oFldN, dOwnFld, sOwnFld, sf_00, sf_11, sf_22, sf_33, sf_0, sf_1, sf_2, sf_3, ownI, dCatO, iLst, asL, iRg, asRg, iRg3, asRg3, sFor, sWhile, dComp, wipeR,
 i_add, i_op0, i_op, i_eq, i_ne, s_eq, s_ne, s_add, l_ix, t_ix, l_add, l_cat, i_int, b_int, i_abs, l_len, t_len, r_len, s_len, i_str, i_max, i_min, oNeg, atI_0, atI_1, atI_2, atI_3, atI_m1, ixNL_0, ixNL_1, ixNL_2, ixNL_3,
 get_0, get_1, get_2, get_3, get_4, get_5, get_6, get_7, get_8, get_9, set_0, set_1, set_2, set_3, set_4, set_5, set_6, set_7, set_8, set_9, isT_tup, isT_str, isT_int, isT_bool, isT_lst, isC_ok, Bool.not_true, Bool.not_false, ln_0, ln_1, ln_2, ln_3, ln_4, lm_0, lm_1, lm_2, lm_3, lm_4, lm_5, lm_6, Option.bind_some, Option.bind_none, true_and, and_true, eq_self, ioIs, ite_and, if_true, if_false, ite_true, ite_false, reduceIte, Bool.false_eq_true, reduceCtorEq, decide_eq_true_eq, cdec_eq, cdec_ne, beq_iff_eq, Bool.not_eq_true', rgOk_small (a := 0) (b := m) (by decide) (by decide) hm0 (by omega)]
      refine wp_for (fun i ρ => ∃ f' t s4 s5, stoOk (some s4) = true ∧ stoOk (some s5) = true ∧ FdOk f' ∧ TmOk t ∧ wt t ≤ 2 + 2 * i ∧ ρ = [.own true 1 (fdD f'), .fro (.int w), .fro (.int m), .fro (tmD t), s4, s5]) _ 0 _ ⟨f1, t, _, _, rfl, rfl, h1, ht, by omega, rfl⟩ ?_ ?_
      · rintro i x _ hx ⟨f2, t, s4, s5, z4, z5, h2, ht, hs, rfl⟩
        have hi : i < 20 := by have := (rgD_get hx).1; omega
        refine ⟨_, putFro_ok z4, ?_⟩
        rw [Nat.zero_add] at hs ⊢
        try simp only [wpS_seq, wpS_next, wpS_if, wpS_ite, wpS_thn, wpS_ret, wpS_retO, wpS_drop, wpS_bad, wpS_nx, wpS_rt, wpS_sbad, wpS_ofO, wpS_frz', wpR_ok, wpR_bad, wpR_bind, wpR_ite, wpO_ok, wpO_bad, wpO_ite, wpO_toR, wpO_toR', wpO_toRO, wpX_ok, wpX_exc, wpX_bad, wpX_ite, wpX_ofD, wpX_noExc, wpO_ofD, wp_toRO1, wpR_noExc,
 sAsg, sAsgO, sOwnSet, sPar, putFro_if, putOwn_if, sto_no, sto_fro, sto_own, frz, dVar, dC, dOp, dUn, dLs, aNil, aCons, dB, asB, dAnd, dOr, dNot, dAndV, dOrV, dNotV, dIfE, dTru, ofB, dFr, dMove, dTup, dLsO, opLst, dSl, pNone, pSome, asI, dOwnIx, ownL, dOwnLen, dOwnSl, dAppend, dPop, dCall0, dCall1, DL.call1, dMeth0, isC, wp_make, List.append_nil, dFld, oFldN, dOwnFld, sOwnFld, sf_00, sf_11, sf_22, sf_33, sf_0, sf_1, sf_2, sf_3, ownI, dCatO, iLst, asL, iRg, asRg, iRg3, asRg3, sFor, sWhile, dComp, wipeR,
 i_add, i_op0, i_op, i_eq, i_ne, s_eq, s_ne, s_add, l_ix, t_ix, l_add, l_cat, i_int, b_int, i_abs, l_len, t_len, r_len, s_len, i_str, i_max, i_min, oNeg, atI_0, atI_1, atI_2, atI_3, atI_m1, ixNL_0, ixNL_1, ixNL_2, ixNL_3,
 get_0, get_1, get_2, get_3, get_4, get_5, get_6, get_7, get_8, get_9, set_0, set_1, set_2, set_3, set_4, set_5, set_6, set_7, set_8, set_9, isT_tup, isT_str, isT_int, isT_bool, isT_lst, isC_ok, Bool.not_true, Bool.not_false, ln_0, ln_1, ln_2, ln_3, ln_4, lm_0, lm_1, lm_2, lm_3, lm_4, lm_5, lm_6, Option.bind_some, Option.bind_none, true_and, and_true, eq_self, ioIs, ite_and, if_true, if_false, ite_true, ite_false, reduceIte, Bool.false_eq_true, reduceCtorEq, decide_eq_true_eq, cdec_eq, cdec_ne, beq_iff_eq, Bool.not_eq_true', z5]
        refine draw_wp h2 (by decide) (by decide) fun r f3 r0 r1 h3 => ?_
        try simp only [wpS_seq, wpS_next, wpS_if, wpS_ite, wpS_thn, wpS_ret, wpS_retO, wpS_drop, wpS_bad, wpS_nx, wpS_rt, wpS_sbad, wpS_ofO, wpS_frz', wpR_ok, wpR_bad, wpR_bind, wpR_ite, wpO_ok, wpO_bad, wpO_ite, wpO_toR, wpO_toR', wpO_toRO, wpX_ok, wpX_exc, wpX_bad, wpX_ite, wpX_ofD, wpX_noExc, wpO_ofD, wp_toRO1, wpR_noExc,
 sAsg, sAsgO, sOwnSet, sPar, putFro_if, putOwn_if, sto_no, sto_fro, sto_own, frz, dVar, dC, dOp, dUn, dLs, aNil, aCons, dB, asB, dAnd, dOr, dNot, dAndV, dOrV, dNotV, dIfE, dTru, ofB, dFr, dMove, dTup, dLsO, opLst, dSl, pNone, pSome, asI, dOwnIx, ownL, dOwnLen, dOwnSl, dAppend, dPop, dCall0, dCall1, DL.call1, dMeth0, isC, wp_make, List.append_nil, dFld, oFldN, dOwnFld, sOwnFld, sf_00, sf_11, sf_22, sf_33, sf_0, sf_1, sf_2, sf_3, ownI, dCatO, iLst, asL, iRg, asRg, iRg3, asRg3, sFor, sWhile, dComp, wipeR,
 i_add, i_op0, i_op, i_eq, i_ne, s_eq, s_ne, s_add, l_ix, t_ix, l_add, l_cat, i_int, b_int, i_abs, l_len, t_len, r_len, s_len, i_str, i_max, i_min, oNeg, atI_0, atI_1, atI_2, atI_3, atI_m1, ixNL_0, ixNL_1, ixNL_2, ixNL_3,
 get_0, get_1, get_2, get_3, get_4, get_5, get_6, get_7, get_8, get_9, set_0, set_1, set_2, set_3, set_4, set_5, set_6, set_7, set_8, set_9, isT_tup, isT_str, isT_int, isT_bool, isT_lst, isC_ok, Bool.not_true, Bool.not_false, ln_0, ln_1, ln_2, ln_3, ln_4, lm_0, lm_1, lm_2, lm_3, lm_4, lm_5, lm_6, Option.bind_some, Option.bind_none, true_and, and_true, eq_self, ioIs, ite_and, if_true, if_false, ite_true, ite_false, reduceIte, Bool.false_eq_true, reduceCtorEq, decide_eq_true_eq, cdec_eq, cdec_ne, beq_iff_eq, Bool.not_eq_true', z5]
        by_cases c : r = 0
        · rw [if_pos c]
          exact ⟨f3, .star t, _, _, rfl, rfl, h3, ht, by show wt t + 1 ≤ _; omega, rfl⟩
        · rw [if_neg c]
          by_cases c1 : r = 1
          · rw [if_pos c1]
            refine leaf_wp hw h3 fun u f4 hu hu2 h4 => ?_
            try simp only [wpS_seq, wpS_next, wpS_if, wpS_ite, wpS_thn, wpS_ret, wpS_retO, wpS_drop, wpS_bad, wpS_nx, wpS_rt, wpS_sbad, wpS_ofO, wpS_frz', wpR_ok, wpR_bad, wpR_bind, wpR_ite, wpO_ok, wpO_bad, wpO_ite, wpO_toR, wpO_toR', wpO_toRO, wpX_ok, wpX_exc, wpX_bad, wpX_ite, wpX_ofD, wpX_noExc, wpO_ofD, wp_toRO1, wpR_noExc,
 sAsg, sAsgO, sOwnSet, sPar, putFro_if, putOwn_if, sto_no, sto_fro, sto_own, frz, dVar, dC, dOp, dUn, dLs, aNil, aCons, dB, asB, dAnd, dOr, dNot, dAndV, dOrV, dNotV, dIfE, dTru, ofB, dFr, dMove, dTup, dLsO, opLst, dSl, pNone, pSome, asI, dOwnIx, ownL, dOwnLen, dOwnSl, dAppend, dPop, dCall0, dCall1, DL.call1, dMeth0, isC, wp_make, List.append_nil, dFld, oFldN, dOwnFld, sOwnFld, sf_00, sf_11, sf_22, sf_33, sf_0, sf_1, sf_2, sf_3, ownI, dCatO, iLst, asL, iRg, asRg, iRg3, asRg3, sFor, sWhile, dComp, wipeR,
 i_add, i_op0, i_op, i_eq, i_ne, s_eq, s_ne, s_add, l_ix, t_ix, l_add, l_cat, i_int, b_int, i_abs, l_len, t_len, r_len, s_len, i_str, i_max, i_min, oNeg, atI_0, atI_1, atI_2, atI_3, atI_m1, ixNL_0, ixNL_1, ixNL_2, ixNL_3,
 get_0, get_1, get_2, get_3, get_4, get_5, get_6, get_7, get_8, get_9, set_0, set_1, set_2, set_3, set_4, set_5, set_6, set_7, set_8, set_9, isT_tup, isT_str, isT_int, isT_bool, isT_lst, isC_ok, Bool.not_true, Bool.not_false, ln_0, ln_1, ln_2, ln_3, ln_4, lm_0, lm_1, lm_2, lm_3, lm_4, lm_5, lm_6, Option.bind_some, Option.bind_none, true_and, and_true, eq_self, ioIs, ite_and, if_true, if_false, ite_true, ite_false, reduceIte, Bool.false_eq_true, reduceCtorEq, decide_eq_true_eq, cdec_eq, cdec_ne, beq_iff_eq, Bool.not_eq_true']
            refine joined_wp h4 ht hu fun y f5 hy hy2 h5 => ?_
            try simp only [wpS_seq, wpS_next, wpS_if, wpS_ite, wpS_thn, wpS_ret, wpS_retO, wpS_drop, wpS_bad, wpS_nx, wpS_rt, wpS_sbad, wpS_ofO, wpS_frz', wpR_ok, wpR_bad, wpR_bind, wpR_ite, wpO_ok, wpO_bad, wpO_ite, wpO_toR, wpO_toR', wpO_toRO, wpX_ok, wpX_exc, wpX_bad, wpX_ite, wpX_ofD, wpX_noExc, wpO_ofD, wp_toRO1, wpR_noExc,
 sAsg, sAsgO, sOwnSet, sPar, putFro_if, putOwn_if, sto_no, sto_fro, sto_own, frz, dVar, dC, dOp, dUn, dLs, aNil, aCons, dB, asB, dAnd, dOr, dNot, dAndV, dOrV, dNotV, dIfE, dTru, ofB, dFr, dMove, dTup, dLsO, opLst, dSl, pNone, pSome, asI, dOwnIx, ownL, dOwnLen, dOwnSl, dAppend, dPop, dCall0, dCall1, DL.call1, dMeth0, isC, wp_make, List.append_nil, dFld, oFldN, dOwnFld, sOwnFld, sf_00, sf_11, sf_22, sf_33, sf_0, sf_1, sf_2, sf_3, ownI, dCatO, iLst, asL, iRg, asRg, iRg3, asRg3, sFor, sWhile, dComp, wipeR,
 i_add, i_op0, i_op, i_eq, i_ne, s_eq, s_ne, s_add, l_ix, t_ix, l_add, l_cat, i_int, b_int, i_abs, l_len, t_len, r_len, s_len, i_str, i_max, i_min, oNeg, atI_0, atI_1, atI_2, atI_3, atI_m1, ixNL_0, ixNL_1, ixNL_2, ixNL_3,
 get_0, get_1, get_2, get_3, get_4, get_5, get_6, get_7, get_8, get_9, set_0, set_1, set_2, set_3, set_4, set_5, set_6, set_7, set_8, set_9, isT_tup, isT_str, isT_int, isT_bool, isT_lst, isC_ok, Bool.not_true, Bool.not_false, ln_0, ln_1, ln_2, ln_3, ln_4, lm_0, lm_1, lm_2, lm_3, lm_4, lm_5, lm_6, Option.bind_some, Option.bind_none, true_and, and_true, eq_self, ioIs, ite_and, if_true, if_false, ite_true, ite_false, reduceIte, Bool.false_eq_true, reduceCtorEq, decide_eq_true_eq, cdec_eq, cdec_ne, beq_iff_eq, Bool.not_eq_true']
            exact ⟨f5, y, _, _, rfl, rfl, h5, hy, by omega, rfl⟩
          · rw [if_neg c1]
            refine leaf_wp hw h3 fun u f4 hu hu2 h4 => ?_
            try simp only [wpS_seq, wpS_next, wpS_if, wpS_ite, wpS_thn, wpS_ret, wpS_retO, wpS_drop, wpS_bad, wpS_nx, wpS_rt, wpS_sbad, wpS_ofO, wpS_frz', wpR_ok, wpR_bad, wpR_bind, wpR_ite, wpO_ok, wpO_bad, wpO_ite, wpO_toR, wpO_toR', wpO_toRO, wpX_ok, wpX_exc, wpX_bad, wpX_ite, wpX_ofD, wpX_noExc, wpO_ofD, wp_toRO1, wpR_noExc,
 sAsg, sAsgO, sOwnSet, sPar, putFro_if, putOwn_if, sto_no, sto_fro, sto_own, frz, dVar, dC, dOp, dUn, dLs, aNil, aCons, dB, asB, dAnd, dOr, dNot, dAndV, dOrV, dNotV, dIfE, dTru, ofB, dFr, dMove, dTup, dLsO, opLst, dSl, pNone, pSome, asI, dOwnIx, ownL, dOwnLen, dOwnSl, dAppend, dPop, dCall0, dCall1, DL.call1, dMeth0, isC, wp_make, List.append_nil, dFld, oFldN, dOwnFld, sOwnFld, sf_00, sf_11, sf_22, sf_33, sf_0, sf_1, sf_2, sf_3, ownI, dCatO, iLst, asL, iRg, asRg, iRg3, asRg3, sFor, sWhile, dComp, wipeR,
 i_add, i_op0, i_op, i_eq, i_ne, s_eq, s_ne, s_add, l_ix, t_ix, l_add, l_cat, i_int, b_int, i_abs, l_len, t_len, r_len, s_len, i_str, i_max, i_min, oNeg, atI_0, atI_1, atI_2, atI_3, atI_m1, ixNL_0, ixNL_1, ixNL_2, ixNL_3,
 get_0, get_1, get_2, get_3, get_4, get_5, get_6, get_7, get_8, get_9, set_0, set_1, set_2, set_3, set_4, set_5, set_6, set_7, set_8, set_9, isT_tup, isT_str, isT_int, isT_bool, isT_lst, isC_ok, Bool.not_true, Bool.not_false, ln_0, ln_1, ln_2, ln_3, ln_4, lm_0, lm_1, lm_2, lm_3, lm_4, lm_5, lm_6, Option.bind_some, Option.bind_none, true_and, and_true, eq_self, ioIs, ite_and, if_true, if_false, ite_true, ite_false, reduceIte, Bool.false_eq_true, reduceCtorEq, decide_eq_true_eq, cdec_eq, cdec_ne, beq_iff_eq, Bool.not_eq_true']
            refine joined_wp h4 hu ht fun y f5 hy hy2 h5 => ?_
            try simp only [wpS_seq, wpS_next, wpS_if, wpS_ite, wpS_thn, wpS_ret, wpS_retO, wpS_drop, wpS_bad, wpS_nx, wpS_rt, wpS_sbad, wpS_ofO, wpS_frz', wpR_ok, wpR_bad, wpR_bind, wpR_ite, wpO_ok, wpO_bad, wpO_ite, wpO_toR, wpO_toR', wpO_toRO, wpX_ok, wpX_exc, wpX_bad, wpX_ite, wpX_ofD, wpX_noExc, wpO_ofD, wp_toRO1, wpR_noExc,
 sAsg, sAsgO, sOwnSet, sPar, putFro_if, putOwn_if, sto_no, sto_fro, sto_own, frz, dVar, dC, dOp, dUn, dLs, aNil, aCons, dB, asB, dAnd, dOr, dNot, dAndV, dOrV, dNotV, dIfE, dTru, ofB, dFr, dMove, dTup, dLsO, opLst, dSl, pNone, pSome, asI, dOwnIx, ownL, dOwnLen, dOwnSl, dAppend, dPop, dCall0, dCall1, DL.call1, dMeth0, isC, wp_make, List.append_nil, dFld, oFldN, dOwnFld, sOwnFld, sf_00, sf_11, sf_22, sf_33, sf_0, sf_1, sf_2, sf_3, ownI, dCatO, iLst, asL, iRg, asRg, iRg3, asRg3, sFor, sWhile, dComp, wipeR,
 i_add, i_op0, i_op, i_eq, i_ne, s_eq, s_ne, s_add, l_ix, t_ix, l_add, l_cat, i_int, b_int, i_abs, l_len, t_len, r_len, s_len, i_str, i_max, i_min, oNeg, atI_0, atI_1, atI_2, atI_3, atI_m1, ixNL_0, ixNL_1, ixNL_2, ixNL_3,
 get_0, get_1, get_2, get_3, get_4, get_5, get_6, get_7, get_8, get_9, set_0, set_1, set_2, set_3, set_4, set_5, set_6, set_7, set_8, set_9, isT_tup, isT_str, isT_int, isT_bool, isT_lst, isC_ok, Bool.not_true, Bool.not_false, ln_0, ln_1, ln_2, ln_3, ln_4, lm_0, lm_1, lm_2, lm_3, lm_4, lm_5, lm_6, Option.bind_some, Option.bind_none, true_and, and_true, eq_self, ioIs, ite_and, if_true, if_false, ite_true, ite_false, reduceIte, Bool.false_eq_true, reduceCtorEq, decide_eq_true_eq, cdec_eq, cdec_ne, beq_iff_eq, Bool.not_eq_true']
            exact ⟨f5, y, _, _, rfl, rfl, h5, hy, by omega, rfl⟩
      · rintro _ ⟨f2, t, s4, s5, z4, z5, h2, ht, hs, rfl⟩
        exact ⟨f2, t, _, _, h2, ht, by rw [rgD_length] at hs; omega, rfl⟩
    · rintro _ ⟨f2, t, s4, s5, h2, ht, hs, rfl⟩
      try simp only [wpS_seq, wpS_next, wpS_if, wpS_ite, wpS_thn, wpS_ret, wpS_retO, wpS_drop, wpS_bad, wpS_nx, wpS_rt, wpS_sbad, wpS_ofO, wpS_frz', wpR_ok, wpR_bad, wpR_bind, wpR_ite, wpO_ok, wpO_bad, wpO_ite, wpO_toR, wpO_toR', wpO_toRO, wpX_ok, wpX_exc, wpX_bad, wpX_ite, wpX_ofD, wpX_noExc, wpO_ofD, wp_toRO1, wpR_noExc,
 sAsg, sAsgO, sOwnSet, sPar, putFro_if, putOwn_if, sto_no, sto_fro, sto_own, frz, dVar, dC, dOp, dUn, dLs, aNil, aCons, dB, asB, dAnd, dOr, dNot, dAndV, dOrV, dNotV, dIfE, dTru, ofB, dFr, dMove, dTup, dLsO, opLst, dSl, pNone, pSome, asI, dOwnIx, ownL, dOwnLen, dOwnSl, dAppend, dPop, dCall0, dCall1, DL.call1, dMeth0, isC, wp_make, List.append_nil, dFld, oFldN, dOwnFld, sOwnFld, sf_00, sf_11, sf_22, sf_33, sf_0, sf_1, sf_2, sf_3, ownI, dCatO, iLst, asL, iRg, asRg, iRg3, asRg3, sFor, sWhile, dComp, wipeR,
 i_add, i_op0, i_op, i_eq, i_ne, s_eq, s_ne, s_add, l_ix, t_ix, l_add, l_cat, i_int, b_int, i_abs, l_len, t_len, r_len, s_len, i_str, i_max, i_min, oNeg, atI_0, atI_1, atI_2, atI_3, atI_m1, ixNL_0, ixNL_1, ixNL_2, ixNL_3,
 get_0, get_1, get_2, get_3, get_4, get_5, get_6, get_7, get_8, get_9, set_0, set_1, set_2, set_3, set_4, set_5, set_6, set_7, set_8, set_9, isT_tup, isT_str, isT_int, isT_bool, isT_lst, isC_ok, Bool.not_true, Bool.not_false, ln_0, ln_1, ln_2, ln_3, ln_4, lm_0, lm_1, lm_2, lm_3, lm_4, lm_5, lm_6, Option.bind_some, Option.bind_none, true_and, and_true, eq_self, ioIs, ite_and, if_true, if_false, ite_true, ite_false, reduceIte, Bool.false_eq_true, reduceCtorEq, decide_eq_true_eq, cdec_eq, cdec_ne, beq_iff_eq, Bool.not_eq_true']
      exact q t f2 ht hs h2
theorem rs2 (n : Nat) : Builtin.Range.rangeSize 0 (n : Int) 2 = (((n + 1) / 2 : Nat) : Int) := by
  unfold Builtin.Range.rangeSize
  rw [if_pos (by decide)]
  split <;> omega
theorem rg3_two {n : Nat} (h : n < 1000) : rg3Ok 0 (n : Int) 2 = true ∧ rg3N 0 (n : Int) 2 = (n + 1) / 2 := by
  have e : rg3N 0 (n : Int) 2 = (n + 1) / 2 := by unfold rg3N; rw [rs2]; omega
  refine ⟨?_, e⟩
  unfold rg3Ok
  rw [cdec_eq, e, rs2]
  refine ⟨by decide, by decide, ?_, rfl, by omega⟩
  have fit : ∀ x : Int, -10000 ≤ x → x < 10000 → Builtin.Range.rangeFitsLong x = true := fun x a b => by
    unfold Builtin.Range.rangeFitsLong
    rw [Bool.and_eq_true]
    exact ⟨decide_eq_true (by omega), decide_eq_true (by omega)⟩
  unfold Builtin.Range.small
  rw [rs2]
  rw [fit 0 (by decide) (by decide), fit n (by omega) (by omega), fit 2 (by decide) (by decide), fit _ (by omega) (by omega), if_pos (by decide), fit _ (by omega) (by omega), Bool.or_true]
  rfl
theorem cut_two {xs : List D} {k : Nat} {i j : Int} (hi : i = k) (hj : j = (k : Int) + 2) : DL.cutD xs (some i) (some j) = (xs.drop k).take 2 := by
  unfold DL.cutD
  rw [hi, hj, show ((k : Int) + 2) = ((k + 2 : Nat) : Int) by omega, HT.sIx_nat, HT.sIx_nat]
  by_cases h : k ≤ xs.length
  · rw [Nat.min_eq_left h]
    by_cases h2 : k + 2 ≤ xs.length
    · rw [Nat.min_eq_left h2, Nat.add_sub_cancel_left]
    · rw [Nat.min_eq_right (by omega), List.take_of_length_le (by rw [List.length_drop]; omega), List.take_of_length_le (by rw [List.length_drop]; omega)]
  · rw [Nat.min_eq_right (by omega), Nat.min_eq_right (by omega), Nat.sub_self, List.take_zero, List.drop_of_length_le (by omega), List.take_nil]
theorem cut_from {xs : List D} {k : Nat} {i : Int} (hi : i = k) : DL.cutD xs (some i) none = xs.drop k := by
  unfold DL.cutD
  rw [hi, HT.sIx_none, HT.sIx_nat]
  by_cases h : k ≤ xs.length
  · rw [Nat.min_eq_left h, List.take_of_length_le (by rw [List.length_drop]; omega)]
  · rw [Nat.min_eq_right (by omega), Nat.sub_self, List.take_zero, List.drop_of_length_le (by omega)]
theorem drop_two {ts : List Tm} {k : Nat} (h : k + 1 < ts.length) : ∃ x y, (ts.drop k).take 2 = [x, y] ∧ ts.take (k + 2) = ts.take k ++ [x, y] ∧ x ∈ ts ∧ y ∈ ts := by
  obtain ⟨l1, x, y, l2, rfl, hl⟩ := split2 h
  subst hl
  refine ⟨x, y, ?_, ?_, by simp, by simp⟩
  · rw [List.drop_left]; rfl
  · rw [List.take_left, show l1 ++ x :: y :: l2 = (l1 ++ [x, y]) ++ l2 by simp, show l1.length + 2 = (l1 ++ [x, y]).length by simp, List.take_left]
theorem wide_wp {f : Fd} {w : Int} (hw : w = 0 ∨ w = 8) {Q : D → D → Prop} {Z : Nat → D → Prop} (h : FdOk f) (q : ∀ t f', TmOk t → wt t ≤ 60 → FdOk f' → Q (tmD t) (fdD f')) : (fn_law_wide_term (fdD f) [.int w]).wpX Q Z := by
  unfold fn_law_wide_term bd_law_wide_term
  rw [wp_fn1, show initR1 7 1 (fdD f) [.int w] = [.own true 1 (fdD f), .fro (.int w), .no, .no, .no, .no, .no] from rfl]
  refine wp_cut (fun ρ => ∃ f' ts, FdOk f' ∧ ts ≠ [] ∧ (∀ t ∈ ts, TmOk t) ∧ wts ts ≤ 60 ∧ ρ = [.own true 1 (fdD f'), .fro (.int w), .fro (.lst (ts.map tmD)), .no, .no, .no, .no]) ?_ ?_
  · try simp only [wpS_seq, wpS_next, wpS_if, wpS_ite, wpS_thn, wpS_ret, wpS_retO, wpS_drop, wpS_bad, wpS_nx, wpS_rt, wpS_sbad, wpS_ofO, wpS_frz', wpR_ok, wpR_bad, wpR_bind, wpR_ite, wpO_ok, wpO_bad, wpO_ite, wpO_toR, wpO_toR', wpO_toRO, wpX_ok, wpX_exc, wpX_bad, wpX_ite, wpX_ofD, wpX_noExc, wpO_ofD, wp_toRO1, wpR_noExc,
 sAsg, sAsgO, sOwnSet, sPar, putFro_if, putOwn_if, sto_no, sto_fro, sto_own, frz, dVar, dC, dOp, dUn, dLs, aNil, aCons, dB, asB, dAnd, dOr, dNot, dAndV, dOrV, dNotV, dIfE, dTru, ofB, dFr, dMove, dTup, dLsO, opLst, dSl, pNone, pSome, asI, dOwnIx, ownL, dOwnLen, dOwnSl, dAppend, dPop, dCall0, dCall1, DL.call1, dMeth0, isC, wp_make, List.append_nil, dFld, oFldN, dOwnFld, sOwnFld, sf_00, sf_11, sf_22, sf_33, sf_0, sf_1, sf_2, sf_3, ownI, dCatO, iLst, asL, iRg, asRg, iRg3, asRg3, sFor, sWhile, dComp, wipeR,
 i_add, i_op0, i_op, i_eq, i_ne, s_eq, s_ne, s_add, l_ix, t_ix, l_add, l_cat, i_int, b_int, i_abs, l_len, t_len, r_len, s_len, i_str, i_max, i_min, oNeg, atI_0, atI_1, atI_2, atI_3, atI_m1, ixNL_0, ixNL_1, ixNL_2, ixNL_3,
 get_0, get_1, get_2, get_3, get_4, get_5, get_6, get_7, get_8, get_9, set_0, set_1, set_2, set_3, set_4, set_5, set_6, set_7, set_8, set_9, isT_tup, isT_str, isT_int, isT_bool, isT_lst, isC_ok, Bool.not_true, Bool.not_false, ln_0, ln_1, ln_2, ln_3, ln_4, lm_0, lm_1, lm_2, lm_3, lm_4, lm_5, lm_6, Option.bind_some, Option.bind_none, true_and, and_true, eq_self, ioIs, ite_and, if_true, if_false, ite_true, ite_false, reduceIte, Bool.false_eq_true, reduceCtorEq, decide_eq_true_eq, cdec_eq, cdec_ne, beq_iff_eq, Bool.not_eq_true', rgOk_small (a := 0) (b := 30) (by decide) (by decide) (by decide) (by decide)]
    refine wp_comp (fun i acc ρ => ∃ f' ts, FdOk f' ∧ ts.length = i ∧ (∀ t ∈ ts, TmOk t) ∧ wts ts = 2 * i ∧ acc = ts.map tmD ∧ ρ = [.own true 1 (fdD f'), .fro (.int w), .no, .no, .no, .no, .no]) _ 0 [] _ ⟨f, [], h, rfl, by simp, rfl, rfl, rfl⟩ ?_ ?_
    · rintro i x _ _ hx ⟨f2, ts, h2, hl, ok, hs, rfl, rfl⟩
      refine ⟨_, rfl, ?_⟩
      try simp only [wpS_seq, wpS_next, wpS_if, wpS_ite, wpS_thn, wpS_ret, wpS_retO, wpS_drop, wpS_bad, wpS_nx, wpS_rt, wpS_sbad, wpS_ofO, wpS_frz', wpR_ok, wpR_bad, wpR_bind, wpR_ite, wpO_ok, wpO_bad, wpO_ite, wpO_toR, wpO_toR', wpO_toRO, wpX_ok, wpX_exc, wpX_bad, wpX_ite, wpX_ofD, wpX_noExc, wpO_ofD, wp_toRO1, wpR_noExc,
 sAsg, sAsgO, sOwnSet, sPar, putFro_if, putOwn_if, sto_no, sto_fro, sto_own, frz, dVar, dC, dOp, dUn, dLs, aNil, aCons, dB, asB, dAnd, dOr, dNot, dAndV, dOrV, dNotV, dIfE, dTru, ofB, dFr, dMove, dTup, dLsO, opLst, dSl, pNone, pSome, asI, dOwnIx, ownL, dOwnLen, dOwnSl, dAppend, dPop, dCall0, dCall1, DL.call1, dMeth0, isC, wp_make, List.append_nil, dFld, oFldN, dOwnFld, sOwnFld, sf_00, sf_11, sf_22, sf_33, sf_0, sf_1, sf_2, sf_3, ownI, dCatO, iLst, asL, iRg, asRg, iRg3, asRg3, sFor, sWhile, dComp, wipeR,
 i_add, i_op0, i_op, i_eq, i_ne, s_eq, s_ne, s_add, l_ix, t_ix, l_add, l_cat, i_int, b_int, i_abs, l_len, t_len, r_len, s_len, i_str, i_max, i_min, oNeg, atI_0, atI_1, atI_2, atI_3, atI_m1, ixNL_0, ixNL_1, ixNL_2, ixNL_3,
 get_0, get_1, get_2, get_3, get_4, get_5, get_6, get_7, get_8, get_9, set_0, set_1, set_2, set_3, set_4, set_5, set_6, set_7, set_8, set_9, isT_tup, isT_str, isT_int, isT_bool, isT_lst, isC_ok, Bool.not_true, Bool.not_false, ln_0, ln_1, ln_2, ln_3, ln_4, lm_0, lm_1, lm_2, lm_3, lm_4, lm_5, lm_6, Option.bind_some, Option.bind_none, true_and, and_true, eq_self, ioIs, ite_and, if_true, if_false, ite_true, ite_false, reduceIte, Bool.false_eq_true, reduceCtorEq, decide_eq_true_eq, cdec_eq, cdec_ne, beq_iff_eq, Bool.not_eq_true']
      refine leaf_wp hw h2 fun t f3 ht h2' h3 => ?_
      try simp only [wpS_seq, wpS_next, wpS_if, wpS_ite, wpS_thn, wpS_ret, wpS_retO, wpS_drop, wpS_bad, wpS_nx, wpS_rt, wpS_sbad, wpS_ofO, wpS_frz', wpR_ok, wpR_bad, wpR_bind, wpR_ite, wpO_ok, wpO_bad, wpO_ite, wpO_toR, wpO_toR', wpO_toRO, wpX_ok, wpX_exc, wpX_bad, wpX_ite, wpX_ofD, wpX_noExc, wpO_ofD, wp_toRO1, wpR_noExc,
 sAsg, sAsgO, sOwnSet, sPar, putFro_if, putOwn_if, sto_no, sto_fro, sto_own, frz, dVar, dC, dOp, dUn, dLs, aNil, aCons, dB, asB, dAnd, dOr, dNot, dAndV, dOrV, dNotV, dIfE, dTru, ofB, dFr, dMove, dTup, dLsO, opLst, dSl, pNone, pSome, asI, dOwnIx, ownL, dOwnLen, dOwnSl, dAppend, dPop, dCall0, dCall1, DL.call1, dMeth0, isC, wp_make, List.append_nil, dFld, oFldN, dOwnFld, sOwnFld, sf_00, sf_11, sf_22, sf_33, sf_0, sf_1, sf_2, sf_3, ownI, dCatO, iLst, asL, iRg, asRg, iRg3, asRg3, sFor, sWhile, dComp, wipeR,
 i_add, i_op0, i_op, i_eq, i_ne, s_eq, s_ne, s_add, l_ix, t_ix, l_add, l_cat, i_int, b_int, i_abs, l_len, t_len, r_len, s_len, i_str, i_max, i_min, oNeg, atI_0, atI_1, atI_2, atI_3, atI_m1, ixNL_0, ixNL_1, ixNL_2, ixNL_3,
 get_0, get_1, get_2, get_3, get_4, get_5, get_6, get_7, get_8, get_9, set_0, set_1, set_2, set_3, set_4, set_5, set_6, set_7, set_8, set_9, isT_tup, isT_str, isT_int, isT_bool, isT_lst, isC_ok, Bool.not_true, Bool.not_false, ln_0, ln_1, ln_2, ln_3, ln_4, lm_0, lm_1, lm_2, lm_3, lm_4, lm_5, lm_6, Option.bind_some, Option.bind_none, true_and, and_true, eq_self, ioIs, ite_and, if_true, if_false, ite_true, ite_false, reduceIte, Bool.false_eq_true, reduceCtorEq, decide_eq_true_eq, cdec_eq, cdec_ne, beq_iff_eq, Bool.not_eq_true']
      refine ⟨f3, ts ++ [t], h3, by rw [List.length_append, hl]; rfl, fun u hu => ?_, by rw [wts_app, wts_cons, wts_nil, hs, h2']; omega, by simp, rfl⟩
      rcases List.mem_append.mp hu with hu | hu
      · exact ok u hu
      · rw [List.mem_singleton.mp hu]; exact ht
    · rintro _ _ ⟨f2, ts, h2, hl, ok, hs, rfl, rfl⟩
      try simp only [wpS_seq, wpS_next, wpS_if, wpS_ite, wpS_thn, wpS_ret, wpS_retO, wpS_drop, wpS_bad, wpS_nx, wpS_rt, wpS_sbad, wpS_ofO, wpS_frz', wpR_ok, wpR_bad, wpR_bind, wpR_ite, wpO_ok, wpO_bad, wpO_ite, wpO_toR, wpO_toR', wpO_toRO, wpX_ok, wpX_exc, wpX_bad, wpX_ite, wpX_ofD, wpX_noExc, wpO_ofD, wp_toRO1, wpR_noExc,
 sAsg, sAsgO, sOwnSet, sPar, putFro_if, putOwn_if, sto_no, sto_fro, sto_own, frz, dVar, dC, dOp, dUn, dLs, aNil, aCons, dB, asB, dAnd, dOr, dNot, dAndV, dOrV, dNotV, dIfE, dTru, ofB, dFr, dMove, dTup, dLsO, opLst, dSl, pNone, pSome, asI, dOwnIx, ownL, dOwnLen, dOwnSl, dAppend, dPop, dCall0, dCall1, DL.call1, dMeth0, isC, wp_make, List.append_nil, dFld, oFldN, dOwnFld, sOwnFld, sf_00, sf_11, sf_22, sf_33, sf_0, sf_1, sf_2, sf_3, ownI, dCatO, iLst, asL, iRg, asRg, iRg3, asRg3, sFor, sWhile, dComp, wipeR,
 i_add, i_op0, i_op, i_eq, i_ne, s_eq, s_ne, s_add, l_ix, t_ix, l_add, l_cat, i_int, b_int, i_abs, l_len, t_len, r_len, s_len, i_str, i_max, i_min, oNeg, atI_0, atI_1, atI_2, atI_3, atI_m1, ixNL_0, ixNL_1, ixNL_2, ixNL_3,
 get_0, get_1, get_2, get_3, get_4, get_5, get_6, get_7, get_8, get_9, set_0, set_1, set_2, set_3, set_4, set_5, set_6, set_7, set_8, set_9, isT_tup, isT_str, isT_int, isT_bool, isT_lst, isC_ok, Bool.not_true, Bool.not_false, ln_0, ln_1, ln_2, ln_3, ln_4, lm_0, lm_1, lm_2, lm_3, lm_4, lm_5, lm_6, Option.bind_some, Option.bind_none, true_and, and_true, eq_self, ioIs, ite_and, if_true, if_false, ite_true, ite_false, reduceIte, Bool.false_eq_true, reduceCtorEq, decide_eq_true_eq, cdec_eq, cdec_ne, beq_iff_eq, Bool.not_eq_true']
      rw [rgD_length] at hl hs
      refine ⟨f2, ts, h2, fun e => ?_, ok, by omega, rfl⟩
      rw [e] at hl
      simp at hl
  · rintro _ ⟨f1, ts, h1, hne, ok, hs, rfl⟩
    refine wp_cut (fun ρ => ∃ f' ts s4 s5 s6, FdOk f' ∧ ts ≠ [] ∧ (∀ t ∈ ts, TmOk t) ∧ wts ts ≤ 60 ∧ ρ = [.own true 1 (fdD f'), .fro (.int w), .fro (.lst (ts.map tmD)), .no, s4, s5, s6]) ?_ ?_
    · try simp only [wpS_seq, wpS_next, wpS_if, wpS_ite, wpS_thn, wpS_ret, wpS_retO, wpS_drop, wpS_bad, wpS_nx, wpS_rt, wpS_sbad, wpS_ofO, wpS_frz', wpR_ok, wpR_bad, wpR_bind, wpR_ite, wpO_ok, wpO_bad, wpO_ite, wpO_toR, wpO_toR', wpO_toRO, wpX_ok, wpX_exc, wpX_bad, wpX_ite, wpX_ofD, wpX_noExc, wpO_ofD, wp_toRO1, wpR_noExc,
 sAsg, sAsgO, sOwnSet, sPar, putFro_if, putOwn_if, sto_no, sto_fro, sto_own, frz, dVar, dC, dOp, dUn, dLs, aNil, aCons, dB, asB, dAnd, dOr, dNot, dAndV, dOrV, dNotV, dIfE, dTru, ofB, dFr, dMove, dTup, dLsO, opLst, dSl, pNone, pSome, asI, dOwnIx, ownL, dOwnLen, dOwnSl, dAppend, dPop, dCall0, dCall1, DL.call1, dMeth0, isC, wp_make, List.append_nil, dFld, oFldN, dOwnFld, sOwnFld, sf_00, sf_11, sf_22, sf_33, sf_0, sf_1, sf_2, sf_3, ownI, dCatO, iLst, asL, iRg, asRg, iRg3, asRg3, sFor, sWhile, dComp, wipeR,
 i_add, i_op0, i_op, i_eq, i_ne, s_eq, s_ne, s_add, l_ix, t_ix, l_add, l_cat, i_int, b_int, i_abs, l_len, t_len, r_len, s_len, i_str, i_max, i_min, oNeg, atI_0, atI_1, atI_2, atI_3, atI_m1, ixNL_0, ixNL_1, ixNL_2, ixNL_3,
 get_0, get_1, get_2, get_3, get_4, get_5, get_6, get_7, get_8, get_9, set_0, set_1, set_2, set_3, set_4, set_5, set_6, set_7, set_8, set_9, isT_tup, isT_str, isT_int, isT_bool, isT_lst, isC_ok, Bool.not_true, Bool.not_false, ln_0, ln_1, ln_2, ln_3, ln_4, lm_0, lm_1, lm_2, lm_3, lm_4, lm_5, lm_6, Option.bind_some, Option.bind_none, true_and, and_true, eq_self, ioIs, ite_and, if_true, if_false, ite_true, ite_false, reduceIte, Bool.false_eq_true, reduceCtorEq, decide_eq_true_eq, cdec_eq, cdec_ne, beq_iff_eq, Bool.not_eq_true', rgOk_small (a := 0) (b := 5) (by decide) (by decide) (by decide) (by decide)]
      refine wp_for (fun i ρ => ∃ f' ts s4 s5, stoOk (some s4) = true ∧ stoOk (some s5) = true ∧ FdOk f' ∧ ts ≠ [] ∧ (∀ t ∈ ts, TmOk t) ∧ wts ts ≤ 60 ∧ ρ = [.own true 1 (fdD f'), .fro (.int w), .fro (.lst (ts.map tmD)), .no, s4, s5, .no]) _ 0 _ ⟨f1, ts, _, _, rfl, rfl, h1, hne, ok, hs, rfl⟩ ?_ ?_
      · rintro i x _ hx ⟨f2, ts, s4, s5, z4, z5, h2, hne, ok, hs, rfl⟩
        refine ⟨_, putFro_ok z4, ?_⟩
        have hl := wts_len ts
        have hl0 : 0 < ts.length := List.length_pos_iff.mpr hne
        obtain ⟨g1, g2⟩ := rg3_two (n := ts.length) (by omega)
        refine wp_cut (fun ρ => ρ = [.own true 1 (fdD f2), .fro (.int w), .fro (.lst (ts.map tmD)), .no, .fro x, .fro (.lst ((List.range ((ts.length + 1) / 2)).map fun j => .lst (((ts.map tmD).drop (2 * j)).take 2))), .no]) ?_ ?_
        · try simp only [wpS_seq, wpS_next, wpS_if, wpS_ite, wpS_thn, wpS_ret, wpS_retO, wpS_drop, wpS_bad, wpS_nx, wpS_rt, wpS_sbad, wpS_ofO, wpS_frz', wpR_ok, wpR_bad, wpR_bind, wpR_ite, wpO_ok, wpO_bad, wpO_ite, wpO_toR, wpO_toR', wpO_toRO, wpX_ok, wpX_exc, wpX_bad, wpX_ite, wpX_ofD, wpX_noExc, wpO_ofD, wp_toRO1, wpR_noExc,
 sAsg, sAsgO, sOwnSet, sPar, putFro_if, putOwn_if, sto_no, sto_fro, sto_own, frz, dVar, dC, dOp, dUn, dLs, aNil, aCons, dB, asB, dAnd, dOr, dNot, dAndV, dOrV, dNotV, dIfE, dTru, ofB, dFr, dMove, dTup, dLsO, opLst, dSl, pNone, pSome, asI, dOwnIx, ownL, dOwnLen, dOwnSl, dAppend, dPop, dCall0, dCall1, DL.call1, dMeth0, isC, wp_make, List.append_nil, dFld, oFldN, dOwnFld, sOwnFld, sf_00, sf_11, sf_22, sf_33, sf_0, sf_1, sf_2, sf_3, ownI, dCatO, iLst, asL, iRg, asRg, iRg3, asRg3, sFor, sWhile, dComp, wipeR,
 i_add, i_op0, i_op, i_eq, i_ne, s_eq, s_ne, s_add, l_ix, t_ix, l_add, l_cat, i_int, b_int, i_abs, l_len, t_len, r_len, s_len, i_str, i_max, i_min, oNeg, atI_0, atI_1, atI_2, atI_3, atI_m1, ixNL_0, ixNL_1, ixNL_2, ixNL_3,
 get_0, get_1, get_2, get_3, get_4, get_5, get_6, get_7, get_8, get_9, set_0, set_1, set_2, set_3, set_4, set_5, set_6, set_7, set_8, set_9, isT_tup, isT_str, isT_int, isT_bool, isT_lst, isC_ok, Bool.not_true, Bool.not_false, ln_0, ln_1, ln_2, ln_3, ln_4, lm_0, lm_1, lm_2, lm_3, lm_4, lm_5, lm_6, Option.bind_some, Option.bind_none, true_and, and_true, eq_self, ioIs, ite_and, if_true, if_false, ite_true, ite_false, reduceIte, Bool.false_eq_true, reduceCtorEq, decide_eq_true_eq, cdec_eq, cdec_ne, beq_iff_eq, Bool.not_eq_true', z5, List.length_map, g1, g2]
          refine wp_comp (fun i acc ρ => acc = (List.range i).map (fun j => .lst (((ts.map tmD).drop (2 * j)).take 2)) ∧ ρ = [.own true 1 (fdD f2), .fro (.int w), .fro (.lst (ts.map tmD)), .no, .fro x, s5, .no]) _ 0 [] _ ⟨rfl, rfl⟩ ?_ ?_
          · rintro j y _ _ hy ⟨rfl, rfl⟩
            obtain ⟨hj, rfl⟩ := rg3D_get hy
            refine ⟨_, rfl, ?_⟩
            try simp only [wpS_seq, wpS_next, wpS_if, wpS_ite, wpS_thn, wpS_ret, wpS_retO, wpS_drop, wpS_bad, wpS_nx, wpS_rt, wpS_sbad, wpS_ofO, wpS_frz', wpR_ok, wpR_bad, wpR_bind, wpR_ite, wpO_ok, wpO_bad, wpO_ite, wpO_toR, wpO_toR', wpO_toRO, wpX_ok, wpX_exc, wpX_bad, wpX_ite, wpX_ofD, wpX_noExc, wpO_ofD, wp_toRO1, wpR_noExc,
 sAsg, sAsgO, sOwnSet, sPar, putFro_if, putOwn_if, sto_no, sto_fro, sto_own, frz, dVar, dC, dOp, dUn, dLs, aNil, aCons, dB, asB, dAnd, dOr, dNot, dAndV, dOrV, dNotV, dIfE, dTru, ofB, dFr, dMove, dTup, dLsO, opLst, dSl, pNone, pSome, asI, dOwnIx, ownL, dOwnLen, dOwnSl, dAppend, dPop, dCall0, dCall1, DL.call1, dMeth0, isC, wp_make, List.append_nil, dFld, oFldN, dOwnFld, sOwnFld, sf_00, sf_11, sf_22, sf_33, sf_0, sf_1, sf_2, sf_3, ownI, dCatO, iLst, asL, iRg, asRg, iRg3, asRg3, sFor, sWhile, dComp, wipeR,
 i_add, i_op0, i_op, i_eq, i_ne, s_eq, s_ne, s_add, l_ix, t_ix, l_add, l_cat, i_int, b_int, i_abs, l_len, t_len, r_len, s_len, i_str, i_max, i_min, oNeg, atI_0, atI_1, atI_2, atI_3, atI_m1, ixNL_0, ixNL_1, ixNL_2, ixNL_3,
 get_0, get_1, get_2, get_3, get_4, get_5, get_6, get_7, get_8, get_9, set_0, set_1, set_2, set_3, set_4, set_5, set_6, set_7, set_8, set_9, isT_tup, isT_str, isT_int, isT_bool, isT_lst, isC_ok, Bool.not_true, Bool.not_false, ln_0, ln_1, ln_2, ln_3, ln_4, lm_0, lm_1, lm_2, lm_3, lm_4, lm_5, lm_6, Option.bind_some, Option.bind_none, true_and, and_true, eq_self, ioIs, ite_and, if_true, if_false, ite_true, ite_false, reduceIte, Bool.false_eq_true, reduceCtorEq, decide_eq_true_eq, cdec_eq, cdec_ne, beq_iff_eq, Bool.not_eq_true', oSl, cut_two (k := 2 * j) (show (0 : Int) + (j : Int) * 2 = ((2 * j : Nat) : Int) by omega) (show (0 : Int) + (j : Int) * 2 + 2 = ((2 * j : Nat) : Int) + 2 by omega)]
            rw [Nat.zero_add, List.range_succ, List.map_append]
            rfl
          · rintro _ _ ⟨rfl, rfl⟩
            rw [rg3D_length, Nat.zero_add]
            try simp only [wpS_seq, wpS_next, wpS_if, wpS_ite, wpS_thn, wpS_ret, wpS_retO, wpS_drop, wpS_bad, wpS_nx, wpS_rt, wpS_sbad, wpS_ofO, wpS_frz', wpR_ok, wpR_bad, wpR_bind, wpR_ite, wpO_ok, wpO_bad, wpO_ite, wpO_toR, wpO_toR', wpO_toRO, wpX_ok, wpX_exc, wpX_bad, wpX_ite, wpX_ofD, wpX_noExc, wpO_ofD, wp_toRO1, wpR_noExc,
 sAsg, sAsgO, sOwnSet, sPar, putFro_if, putOwn_if, sto_no, sto_fro, sto_own, frz, dVar, dC, dOp, dUn, dLs, aNil, aCons, dB, asB, dAnd, dOr, dNot, dAndV, dOrV, dNotV, dIfE, dTru, ofB, dFr, dMove, dTup, dLsO, opLst, dSl, pNone, pSome, asI, dOwnIx, ownL, dOwnLen, dOwnSl, dAppend, dPop, dCall0, dCall1, DL.call1, dMeth0, isC, wp_make, List.append_nil, dFld, oFldN, dOwnFld, sOwnFld, sf_00, sf_11, sf_22, sf_33, sf_0, sf_1, sf_2, sf_3, ownI, dCatO, iLst, asL, iRg, asRg, iRg3, asRg3, sFor, sWhile, dComp, wipeR,
 i_add, i_op0, i_op, i_eq, i_ne, s_eq, s_ne, s_add, l_ix, t_ix, l_add, l_cat, i_int, b_int, i_abs, l_len, t_len, r_len, s_len, i_str, i_max, i_min, oNeg, atI_0, atI_1, atI_2, atI_3, atI_m1, ixNL_0, ixNL_1, ixNL_2, ixNL_3,
 get_0, get_1, get_2, get_3, get_4, get_5, get_6, get_7, get_8, get_9, set_0, set_1, set_2, set_3, set_4, set_5, set_6, set_7, set_8, set_9, isT_tup, isT_str, isT_int, isT_bool, isT_lst, isC_ok, Bool.not_true, Bool.not_false, ln_0, ln_1, ln_2, ln_3, ln_4, lm_0, lm_1, lm_2, lm_3, lm_4, lm_5, lm_6, Option.bind_some, Option.bind_none, true_and, and_true, eq_self, ioIs, ite_and, if_true, if_false, ite_true, ite_false, reduceIte, Bool.false_eq_true, reduceCtorEq, decide_eq_true_eq, cdec_eq, cdec_ne, beq_iff_eq, Bool.not_eq_true', z5]
        · rintro _ rfl
          try simp only [wpS_seq, wpS_next, wpS_if, wpS_ite, wpS_thn, wpS_ret, wpS_retO, wpS_drop, wpS_bad, wpS_nx, wpS_rt, wpS_sbad, wpS_ofO, wpS_frz', wpR_ok, wpR_bad, wpR_bind, wpR_ite, wpO_ok, wpO_bad, wpO_ite, wpO_toR, wpO_toR', wpO_toRO, wpX_ok, wpX_exc, wpX_bad, wpX_ite, wpX_ofD, wpX_noExc, wpO_ofD, wp_toRO1, wpR_noExc,
 sAsg, sAsgO, sOwnSet, sPar, putFro_if, putOwn_if, sto_no, sto_fro, sto_own, frz, dVar, dC, dOp, dUn, dLs, aNil, aCons, dB, asB, dAnd, dOr, dNot, dAndV, dOrV, dNotV, dIfE, dTru, ofB, dFr, dMove, dTup, dLsO, opLst, dSl, pNone, pSome, asI, dOwnIx, ownL, dOwnLen, dOwnSl, dAppend, dPop, dCall0, dCall1, DL.call1, dMeth0, isC, wp_make, List.append_nil, dFld, oFldN, dOwnFld, sOwnFld, sf_00, sf_11, sf_22, sf_33, sf_0, sf_1, sf_2, sf_3, ownI, dCatO, iLst, asL, iRg, asRg, iRg3, asRg3, sFor, sWhile, dComp, wipeR,
 i_add, i_op0, i_op, i_eq, i_ne, s_eq, s_ne, s_add, l_ix, t_ix, l_add, l_cat, i_int, b_int, i_abs, l_len, t_len, r_len, s_len, i_str, i_max, i_min, oNeg, atI_0, atI_1, atI_2, atI_3, atI_m1, ixNL_0, ixNL_1, ixNL_2, ixNL_3,
 get_0, get_1, get_2, get_3, get_4, get_5, get_6, get_7, get_8, get_9, set_0, set_1, set_2, set_3, set_4, set_5, set_6, set_7, set_8, set_9, isT_tup, isT_str, isT_int, isT_bool, isT_lst, isC_ok, Bool.not_true, Bool.not_false, ln_0, ln_1, ln_2, ln_3, ln_4, lm_0, lm_1, lm_2, lm_3, lm_4, lm_5, lm_6, Option.bind_some, Option.bind_none, true_and, and_true, eq_self, ioIs, ite_and, if_true, if_false, ite_true, ite_false, reduceIte, Bool.false_eq_true, reduceCtorEq, decide_eq_true_eq, cdec_eq, cdec_ne, beq_iff_eq, Bool.not_eq_true']
          refine wp_comp (fun i acc ρ => ∃ f' us, FdOk f' ∧ acc = us.map tmD ∧ (∀ t ∈ us, TmOk t) ∧ us.length = min i (ts.length / 2) ∧ wts us = wts (ts.take (2 * min i (ts.length / 2))) ∧ ρ = [.own true 1 (fdD f'), .fro (.int w), .fro (.lst (ts.map tmD)), .no, .fro x, .fro (.lst ((List.range ((ts.length + 1) / 2)).map fun j => .lst (((ts.map tmD).drop (2 * j)).take 2))), .no]) _ 0 [] _ ⟨f2, [], h2, rfl, by simp, by simp, by simp [wts_nil], rfl⟩ ?_ ?_
          · rintro j y _ _ hy ⟨f3, us, h3, rfl, oku, hlu, hsu, rfl⟩
            rw [List.getElem?_map] at hy
            have hj : j < (ts.length + 1) / 2 := by
              by_cases c : j < (ts.length + 1) / 2
              · exact c
              · rw [List.getElem?_eq_none (by rw [List.length_range]; omega)] at hy; cases hy
            rw [List.getElem?_range hj] at hy
            cases hy
            refine ⟨_, rfl, ?_⟩
            rw [Nat.zero_add] at hlu hsu ⊢
            by_cases c : 2 * j + 1 < ts.length
            · obtain ⟨u, v, e1, e2, mu, mv⟩ := drop_two c
              dsimp only
              rw [← List.map_drop, ← List.map_take, e1]
              try simp only [wpS_seq, wpS_next, wpS_if, wpS_ite, wpS_thn, wpS_ret, wpS_retO, wpS_drop, wpS_bad, wpS_nx, wpS_rt, wpS_sbad, wpS_ofO, wpS_frz', wpR_ok, wpR_bad, wpR_bind, wpR_ite, wpO_ok, wpO_bad, wpO_ite, wpO_toR, wpO_toR', wpO_toRO, wpX_ok, wpX_exc, wpX_bad, wpX_ite, wpX_ofD, wpX_noExc, wpO_ofD, wp_toRO1, wpR_noExc,
 sAsg, sAsgO, sOwnSet, sPar, putFro_if, putOwn_if, sto_no, sto_fro, sto_own, frz, dVar, dC, dOp, dUn, dLs, aNil, aCons, dB, asB, dAnd, dOr, dNot, dAndV, dOrV, dNotV, dIfE, dTru, ofB, dFr, dMove, dTup, dLsO, opLst, dSl, pNone, pSome, asI, dOwnIx, ownL, dOwnLen, dOwnSl, dAppend, dPop, dCall0, dCall1, DL.call1, dMeth0, isC, wp_make, List.append_nil, dFld, oFldN, dOwnFld, sOwnFld, sf_00, sf_11, sf_22, sf_33, sf_0, sf_1, sf_2, sf_3, ownI, dCatO, iLst, asL, iRg, asRg, iRg3, asRg3, sFor, sWhile, dComp, wipeR,
 i_add, i_op0, i_op, i_eq, i_ne, s_eq, s_ne, s_add, l_ix, t_ix, l_add, l_cat, i_int, b_int, i_abs, l_len, t_len, r_len, s_len, i_str, i_max, i_min, oNeg, atI_0, atI_1, atI_2, atI_3, atI_m1, ixNL_0, ixNL_1, ixNL_2, ixNL_3,
 get_0, get_1, get_2, get_3, get_4, get_5, get_6, get_7, get_8, get_9, set_0, set_1, set_2, set_3, set_4, set_5, set_6, set_7, set_8, set_9, isT_tup, isT_str, isT_int, isT_bool, isT_lst, isC_ok, Bool.not_true, Bool.not_false, ln_0, ln_1, ln_2, ln_3, ln_4, lm_0, lm_1, lm_2, lm_3, lm_4, lm_5, lm_6, Option.bind_some, Option.bind_none, true_and, and_true, eq_self, ioIs, ite_and, if_true, if_false, ite_true, ite_false, reduceIte, Bool.false_eq_true, reduceCtorEq, decide_eq_true_eq, cdec_eq, cdec_ne, beq_iff_eq, Bool.not_eq_true', List.map_cons, List.map_nil, List.length_cons, List.length_nil, Nat.reduceAdd, Int.reduceEq]
              rw [if_pos (by decide)]
              refine joined_wp h3 (ok u mu) (ok v mv) fun y f4 hy hy2 h4 => ?_
              try simp only [wpS_seq, wpS_next, wpS_if, wpS_ite, wpS_thn, wpS_ret, wpS_retO, wpS_drop, wpS_bad, wpS_nx, wpS_rt, wpS_sbad, wpS_ofO, wpS_frz', wpR_ok, wpR_bad, wpR_bind, wpR_ite, wpO_ok, wpO_bad, wpO_ite, wpO_toR, wpO_toR', wpO_toRO, wpX_ok, wpX_exc, wpX_bad, wpX_ite, wpX_ofD, wpX_noExc, wpO_ofD, wp_toRO1, wpR_noExc,
 sAsg, sAsgO, sOwnSet, sPar, putFro_if, putOwn_if, sto_no, sto_fro, sto_own, frz, dVar, dC, dOp, dUn, dLs, aNil, aCons, dB, asB, dAnd, dOr, dNot, dAndV, dOrV, dNotV, dIfE, dTru, ofB, dFr, dMove, dTup, dLsO, opLst, dSl, pNone, pSome, asI, dOwnIx, ownL, dOwnLen, dOwnSl, dAppend, dPop, dCall0, dCall1, DL.call1, dMeth0, isC, wp_make, List.append_nil, dFld, oFldN, dOwnFld, sOwnFld, sf_00, sf_11, sf_22, sf_33, sf_0, sf_1, sf_2, sf_3, ownI, dCatO, iLst, asL, iRg, asRg, iRg3, asRg3, sFor, sWhile, dComp, wipeR,
 i_add, i_op0, i_op, i_eq, i_ne, s_eq, s_ne, s_add, l_ix, t_ix, l_add, l_cat, i_int, b_int, i_abs, l_len, t_len, r_len, s_len, i_str, i_max, i_min, oNeg, atI_0, atI_1, atI_2, atI_3, atI_m1, ixNL_0, ixNL_1, ixNL_2, ixNL_3,
 get_0, get_1, get_2, get_3, get_4, get_5, get_6, get_7, get_8, get_9, set_0, set_1, set_2, set_3, set_4, set_5, set_6, set_7, set_8, set_9, isT_tup, isT_str, isT_int, isT_bool, isT_lst, isC_ok, Bool.not_true, Bool.not_false, ln_0, ln_1, ln_2, ln_3, ln_4, lm_0, lm_1, lm_2, lm_3, lm_4, lm_5, lm_6, Option.bind_some, Option.bind_none, true_and, and_true, eq_self, ioIs, ite_and, if_true, if_false, ite_true, ite_false, reduceIte, Bool.false_eq_true, reduceCtorEq, decide_eq_true_eq, cdec_eq, cdec_ne, beq_iff_eq, Bool.not_eq_true']
              refine ⟨f4, us ++ [y], h4, by simp, fun t ht => ?_, ?_, ?_, rfl⟩
              · rcases List.mem_append.mp ht with ht | ht
                · exact oku t ht
                · rw [List.mem_singleton.mp ht]; exact hy
              · rw [List.length_append, hlu, List.length_singleton]; omega
              · rw [wts_app, wts_cons, wts_nil, hsu, hy2, Nat.min_eq_left (by omega), Nat.min_eq_left (by omega), show 2 * (j + 1) = 2 * j + 2 by omega, e2, wts_app, wts_cons, wts_cons, wts_nil]; omega
            · have e1 : ((ts.map tmD).drop (2 * j)).take 2 = (ts.map tmD).drop (2 * j) := List.take_of_length_le (by rw [List.length_drop, List.length_map]; omega)
              have e2 : (((ts.map tmD).drop (2 * j)).length : Int) = 1 := by rw [List.length_drop, List.length_map]; omega
              dsimp only
              rw [e1]
              try simp only [wpS_seq, wpS_next, wpS_if, wpS_ite, wpS_thn, wpS_ret, wpS_retO, wpS_drop, wpS_bad, wpS_nx, wpS_rt, wpS_sbad, wpS_ofO, wpS_frz', wpR_ok, wpR_bad, wpR_bind, wpR_ite, wpO_ok, wpO_bad, wpO_ite, wpO_toR, wpO_toR', wpO_toRO, wpX_ok, wpX_exc, wpX_bad, wpX_ite, wpX_ofD, wpX_noExc, wpO_ofD, wp_toRO1, wpR_noExc,
 sAsg, sAsgO, sOwnSet, sPar, putFro_if, putOwn_if, sto_no, sto_fro, sto_own, frz, dVar, dC, dOp, dUn, dLs, aNil, aCons, dB, asB, dAnd, dOr, dNot, dAndV, dOrV, dNotV, dIfE, dTru, ofB, dFr, dMove, dTup, dLsO, opLst, dSl, pNone, pSome, asI, dOwnIx, ownL, dOwnLen, dOwnSl, dAppend, dPop, dCall0, dCall1, DL.call1, dMeth0, isC, wp_make, List.append_nil, dFld, oFldN, dOwnFld, sOwnFld, sf_00, sf_11, sf_22, sf_33, sf_0, sf_1, sf_2, sf_3, ownI, dCatO, iLst, asL, iRg, asRg, iRg3, asRg3, sFor, sWhile, dComp, wipeR,
 i_add, i_op0, i_op, i_eq, i_ne, s_eq, s_ne, s_add, l_ix, t_ix, l_add, l_cat, i_int, b_int, i_abs, l_len, t_len, r_len, s_len, i_str, i_max, i_min, oNeg, atI_0, atI_1, atI_2, atI_3, atI_m1, ixNL_0, ixNL_1, ixNL_2, ixNL_3,
 get_0, get_1, get_2, get_3, get_4, get_5, get_6, get_7, get_8, get_9, set_0, set_1, set_2, set_3, set_4, set_5, set_6, set_7, set_8, set_9, isT_tup, isT_str, isT_int, isT_bool, isT_lst, isC_ok, Bool.not_true, Bool.not_false, ln_0, ln_1, ln_2, ln_3, ln_4, lm_0, lm_1, lm_2, lm_3, lm_4, lm_5, lm_6, Option.bind_some, Option.bind_none, true_and, and_true, eq_self, ioIs, ite_and, if_true, if_false, ite_true, ite_false, reduceIte, Bool.false_eq_true, reduceCtorEq, decide_eq_true_eq, cdec_eq, cdec_ne, beq_iff_eq, Bool.not_eq_true', e2, Int.reduceEq]
              refine ⟨f3, us, h3, rfl, oku, ?_, ?_, rfl⟩
              · rw [hlu]; omega
              · rw [hsu]
                congr 2
                omega
          · rintro _ _ ⟨f3, us, h3, rfl, oku, hlu, hsu, rfl⟩
            rw [List.length_map, List.length_range, Nat.zero_add] at hlu hsu
            have e2 : (List.map tmD ts).length = ts.length := List.length_map ..
            have dv : divOk (ts.length : Int) 2 = true := divOk_lt 10 (by decide) (by decide)
            have mv : mulOk ((ts.length : Int).fdiv 2) 2 = true := mulOk_of (k := 10) (m := 10) (by rw [Int.fdiv_eq_ediv_of_nonneg _ (by decide)]; omega) (by decide) (by decide) (by decide) (by decide)
            have e3 : ((ts.length : Int).fdiv 2) * 2 = ((2 * (ts.length / 2) : Nat) : Int) := by rw [Int.fdiv_eq_ediv_of_nonneg _ (by decide)]; omega
            try simp only [wpS_seq, wpS_next, wpS_if, wpS_ite, wpS_thn, wpS_ret, wpS_retO, wpS_drop, wpS_bad, wpS_nx, wpS_rt, wpS_sbad, wpS_ofO, wpS_frz', wpR_ok, wpR_bad, wpR_bind, wpR_ite, wpO_ok, wpO_bad, wpO_ite, wpO_toR, wpO_toR', wpO_toRO, wpX_ok, wpX_exc, wpX_bad, wpX_ite, wpX_ofD, wpX_noExc, wpO_ofD, wp_toRO1, wpR_noExc,
 sAsg, sAsgO, sOwnSet, sPar, putFro_if, putOwn_if, sto_no, sto_fro, sto_own, frz, dVar, dC, dOp, dUn, dLs, aNil, aCons, dB, asB, dAnd, dOr, dNot, dAndV, dOrV, dNotV, dIfE, dTru, ofB, dFr, dMove, dTup, dLsO, opLst, dSl, pNone, pSome, asI, dOwnIx, ownL, dOwnLen, dOwnSl, dAppend, dPop, dCall0, dCall1, DL.call1, dMeth0, isC, wp_make, List.append_nil, dFld, oFldN, dOwnFld, sOwnFld, sf_00, sf_11, sf_22, sf_33, sf_0, sf_1, sf_2, sf_3, ownI, dCatO, iLst, asL, iRg, asRg, iRg3, asRg3, sFor, sWhile, dComp, wipeR,
 i_add, i_op0, i_op, i_eq, i_ne, s_eq, s_ne, s_add, l_ix, t_ix, l_add, l_cat, i_int, b_int, i_abs, l_len, t_len, r_len, s_len, i_str, i_max, i_min, oNeg, atI_0, atI_1, atI_2, atI_3, atI_m1, ixNL_0, ixNL_1, ixNL_2, ixNL_3,
 get_0, get_1, get_2, get_3, get_4, get_5, get_6, get_7, get_8, get_9, set_0, set_1, set_2, set_3, set_4, set_5, set_6, set_7, set_8, set_9, isT_tup, isT_str, isT_int, isT_bool, isT_lst, isC_ok, Bool.not_true, Bool.not_false, ln_0, ln_1, ln_2, ln_3, ln_4, lm_0, lm_1, lm_2, lm_3, lm_4, lm_5, lm_6, Option.bind_some, Option.bind_none, true_and, and_true, eq_self, ioIs, ite_and, if_true, if_false, ite_true, ite_false, reduceIte, Bool.false_eq_true, reduceCtorEq, decide_eq_true_eq, cdec_eq, cdec_ne, beq_iff_eq, Bool.not_eq_true', oSl, e2, dv, mv, e3, cut_from (k := 2 * (ts.length / 2)) rfl]
            refine ⟨len_le (by rw [List.length_map, hlu, List.length_drop, List.length_map]; omega), f3, us ++ ts.drop (2 * (ts.length / 2)), _, _, rfl, rfl, h3, fun e => ?_, fun t ht => ?_, ?_, by rw [List.map_append, List.map_drop]⟩
            · have : (us ++ ts.drop (2 * (ts.length / 2))).length = 0 := by rw [e]; rfl
              rw [List.length_append, hlu, List.length_drop] at this
              omega
            · rcases List.mem_append.mp ht with ht | ht
              · exact oku t ht
              · exact ok t (List.mem_of_mem_drop ht)
            · rw [wts_app, hsu, Nat.min_eq_right (by omega), ← wts_app, List.take_append_drop]
              exact hs
      · rintro _ ⟨f2, ts, s4, s5, z4, z5, h2, hne, ok, hs, rfl⟩
        exact ⟨f2, ts, _, _, _, h2, hne, ok, hs, rfl⟩
    · rintro _ ⟨f2, ts, s4, s5, s6, h2, hne, ok, hs, rfl⟩
      cases ts with
      | nil => exact absurd rfl hne
      | cons t ts =>
        try simp only [wpS_seq, wpS_next, wpS_if, wpS_ite, wpS_thn, wpS_ret, wpS_retO, wpS_drop, wpS_bad, wpS_nx, wpS_rt, wpS_sbad, wpS_ofO, wpS_frz', wpR_ok, wpR_bad, wpR_bind, wpR_ite, wpO_ok, wpO_bad, wpO_ite, wpO_toR, wpO_toR', wpO_toRO, wpX_ok, wpX_exc, wpX_bad, wpX_ite, wpX_ofD, wpX_noExc, wpO_ofD, wp_toRO1, wpR_noExc,
 sAsg, sAsgO, sOwnSet, sPar, putFro_if, putOwn_if, sto_no, sto_fro, sto_own, frz, dVar, dC, dOp, dUn, dLs, aNil, aCons, dB, asB, dAnd, dOr, dNot, dAndV, dOrV, dNotV, dIfE, dTru, ofB, dFr, dMove, dTup, dLsO, opLst, dSl, pNone, pSome, asI, dOwnIx, ownL, dOwnLen, dOwnSl, dAppend, dPop, dCall0, dCall1, DL.call1, dMeth0, isC, wp_make, List.append_nil, dFld, oFldN, dOwnFld, sOwnFld, sf_00, sf_11, sf_22, sf_33, sf_0, sf_1, sf_2, sf_3, ownI, dCatO, iLst, asL, iRg, asRg, iRg3, asRg3, sFor, sWhile, dComp, wipeR,
 i_add, i_op0, i_op, i_eq, i_ne, s_eq, s_ne, s_add, l_ix, t_ix, l_add, l_cat, i_int, b_int, i_abs, l_len, t_len, r_len, s_len, i_str, i_max, i_min, oNeg, atI_0, atI_1, atI_2, atI_3, atI_m1, ixNL_0, ixNL_1, ixNL_2, ixNL_3,
 get_0, get_1, get_2, get_3, get_4, get_5, get_6, get_7, get_8, get_9, set_0, set_1, set_2, set_3, set_4, set_5, set_6, set_7, set_8, set_9, isT_tup, isT_str, isT_int, isT_bool, isT_lst, isC_ok, Bool.not_true, Bool.not_false, ln_0, ln_1, ln_2, ln_3, ln_4, lm_0, lm_1, lm_2, lm_3, lm_4, lm_5, lm_6, Option.bind_some, Option.bind_none, true_and, and_true, eq_self, ioIs, ite_and, if_true, if_false, ite_true, ite_false, reduceIte, Bool.false_eq_true, reduceCtorEq, decide_eq_true_eq, cdec_eq, cdec_ne, beq_iff_eq, Bool.not_eq_true', List.map_cons]
        rw [wts_cons] at hs
        exact q t f2 (ok t List.mem_cons_self) (by omega) h2
theorem term_wp {f : Fd} {Q : D → D → Prop} {Z : Nat → D → Prop} (h : FdOk f) (q : ∀ t f', TmOk t → wt t ≤ 60 → FdOk f' → Q (tmD t) (fdD f')) : (fn_law_term (fdD f) []).wpX Q Z := by
  unfold fn_law_term bd_law_term
  rw [wp_fn1, show initR1 3 1 (fdD f) [] = [.own true 1 (fdD f), .no, .no] from rfl]
  refine wp_cut (fun ρ => ∃ f' w, FdOk f' ∧ (w = 0 ∨ w = 8) ∧ ρ = [.own true 1 (fdD f'), .fro (.int w), .no]) ?_ ?_
  · try simp only [wpS_seq, wpS_next, wpS_if, wpS_ite, wpS_thn, wpS_ret, wpS_retO, wpS_drop, wpS_bad, wpS_nx, wpS_rt, wpS_sbad, wpS_ofO, wpS_frz', wpR_ok, wpR_bad, wpR_bind, wpR_ite, wpO_ok, wpO_bad, wpO_ite, wpO_toR, wpO_toR', wpO_toRO, wpX_ok, wpX_exc, wpX_bad, wpX_ite, wpX_ofD, wpX_noExc, wpO_ofD, wp_toRO1, wpR_noExc,
 sAsg, sAsgO, sOwnSet, sPar, putFro_if, putOwn_if, sto_no, sto_fro, sto_own, frz, dVar, dC, dOp, dUn, dLs, aNil, aCons, dB, asB, dAnd, dOr, dNot, dAndV, dOrV, dNotV, dIfE, dTru, ofB, dFr, dMove, dTup, dLsO, opLst, dSl, pNone, pSome, asI, dOwnIx, ownL, dOwnLen, dOwnSl, dAppend, dPop, dCall0, dCall1, DL.call1, dMeth0, isC, wp_make, List.append_nil, dFld, oFldN, dOwnFld, sOwnFld, sf_00, sf_11, sf_22, sf_33, sf_0, sf_1, sf_2, sf_3, ownI, dCatO, iLst, asL, iRg, asRg, iRg3, asRg3, sFor, sWhile, dComp, wipeR,
 i_add, i_op0, i_op, i_eq, i_ne, s_eq, s_ne, s_add, l_ix, t_ix, l_add, l_cat, i_int, b_int, i_abs, l_len, t_len, r_len, s_len, i_str, i_max, i_min, oNeg, atI_0, atI_1, atI_2, atI_3, atI_m1, ixNL_0, ixNL_1, ixNL_2, ixNL_3,
 get_0, get_1, get_2, get_3, get_4, get_5, get_6, get_7, get_8, get_9, set_0, set_1, set_2, set_3, set_4, set_5, set_6, set_7, set_8, set_9, isT_tup, isT_str, isT_int, isT_bool, isT_lst, isC_ok, Bool.not_true, Bool.not_false, ln_0, ln_1, ln_2, ln_3, ln_4, lm_0, lm_1, lm_2, lm_3, lm_4, lm_5, lm_6, Option.bind_some, Option.bind_none, true_and, and_true, eq_self, ioIs, ite_and, if_true, if_false, ite_true, ite_false, reduceIte, Bool.false_eq_true, reduceCtorEq, decide_eq_true_eq, cdec_eq, cdec_ne, beq_iff_eq, Bool.not_eq_true']
    refine draw_wp h (by decide) (by decide) fun r f1 r0 r1 h1 => ?_
    try simp only [wpS_seq, wpS_next, wpS_if, wpS_ite, wpS_thn, wpS_ret, wpS_retO, wpS_drop, wpS_bad, wpS_nx, wpS_rt, wpS_sbad, wpS_ofO, wpS_frz', wpR_ok, wpR_bad, wpR_bind, wpR_ite, wpO_ok, wpO_bad, wpO_ite, wpO_toR, wpO_toR', wpO_toRO, wpX_ok, wpX_exc, wpX_bad, wpX_ite, wpX_ofD, wpX_noExc, wpO_ofD, wp_toRO1, wpR_noExc,
 sAsg, sAsgO, sOwnSet, sPar, putFro_if, putOwn_if, sto_no, sto_fro, sto_own, frz, dVar, dC, dOp, dUn, dLs, aNil, aCons, dB, asB, dAnd, dOr, dNot, dAndV, dOrV, dNotV, dIfE, dTru, ofB, dFr, dMove, dTup, dLsO, opLst, dSl, pNone, pSome, asI, dOwnIx, ownL, dOwnLen, dOwnSl, dAppend, dPop, dCall0, dCall1, DL.call1, dMeth0, isC, wp_make, List.append_nil, dFld, oFldN, dOwnFld, sOwnFld, sf_00, sf_11, sf_22, sf_33, sf_0, sf_1, sf_2, sf_3, ownI, dCatO, iLst, asL, iRg, asRg, iRg3, asRg3, sFor, sWhile, dComp, wipeR,
 i_add, i_op0, i_op, i_eq, i_ne, s_eq, s_ne, s_add, l_ix, t_ix, l_add, l_cat, i_int, b_int, i_abs, l_len, t_len, r_len, s_len, i_str, i_max, i_min, oNeg, atI_0, atI_1, atI_2, atI_3, atI_m1, ixNL_0, ixNL_1, ixNL_2, ixNL_3,
 get_0, get_1, get_2, get_3, get_4, get_5, get_6, get_7, get_8, get_9, set_0, set_1, set_2, set_3, set_4, set_5, set_6, set_7, set_8, set_9, isT_tup, isT_str, isT_int, isT_bool, isT_lst, isC_ok, Bool.not_true, Bool.not_false, ln_0, ln_1, ln_2, ln_3, ln_4, lm_0, lm_1, lm_2, lm_3, lm_4, lm_5, lm_6, Option.bind_some, Option.bind_none, true_and, and_true, eq_self, ioIs, ite_and, if_true, if_false, ite_true, ite_false, reduceIte, Bool.false_eq_true, reduceCtorEq, decide_eq_true_eq, cdec_eq, cdec_ne, beq_iff_eq, Bool.not_eq_true']
    refine ⟨mulOk_of (k := 10) (m := 10) (by decide) (by split <;> decide) (by decide) (by decide) (by decide), f1, _, h1, ?_, rfl⟩
    split
    · exact .inr rfl
    · exact .inl rfl
  · rintro _ ⟨f1, w, h1, hw, rfl⟩
    try simp only [wpS_seq, wpS_next, wpS_if, wpS_ite, wpS_thn, wpS_ret, wpS_retO, wpS_drop, wpS_bad, wpS_nx, wpS_rt, wpS_sbad, wpS_ofO, wpS_frz', wpR_ok, wpR_bad, wpR_bind, wpR_ite, wpO_ok, wpO_bad, wpO_ite, wpO_toR, wpO_toR', wpO_toRO, wpX_ok, wpX_exc, wpX_bad, wpX_ite, wpX_ofD, wpX_noExc, wpO_ofD, wp_toRO1, wpR_noExc,
 sAsg, sAsgO, sOwnSet, sPar, putFro_if, putOwn_if, sto_no, sto_fro, sto_own, frz, dVar, dC, dOp, dUn, dLs, aNil, aCons, dB, asB, dAnd, dOr, dNot, dAndV, dOrV, dNotV, dIfE, dTru, ofB, dFr, dMove, dTup, dLsO, opLst, dSl, pNone, pSome, asI, dOwnIx, ownL, dOwnLen, dOwnSl, dAppend, dPop, dCall0, dCall1, DL.call1, dMeth0, isC, wp_make, List.append_nil, dFld, oFldN, dOwnFld, sOwnFld, sf_00, sf_11, sf_22, sf_33, sf_0, sf_1, sf_2, sf_3, ownI, dCatO, iLst, asL, iRg, asRg, iRg3, asRg3, sFor, sWhile, dComp, wipeR,
 i_add, i_op0, i_op, i_eq, i_ne, s_eq, s_ne, s_add, l_ix, t_ix, l_add, l_cat, i_int, b_int, i_abs, l_len, t_len, r_len, s_len, i_str, i_max, i_min, oNeg, atI_0, atI_1, atI_2, atI_3, atI_m1, ixNL_0, ixNL_1, ixNL_2, ixNL_3,
 get_0, get_1, get_2, get_3, get_4, get_5, get_6, get_7, get_8, get_9, set_0, set_1, set_2, set_3, set_4, set_5, set_6, set_7, set_8, set_9, isT_tup, isT_str, isT_int, isT_bool, isT_lst, isC_ok, Bool.not_true, Bool.not_false, ln_0, ln_1, ln_2, ln_3, ln_4, lm_0, lm_1, lm_2, lm_3, lm_4, lm_5, lm_6, Option.bind_some, Option.bind_none, true_and, and_true, eq_self, ioIs, ite_and, if_true, if_false, ite_true, ite_false, reduceIte, Bool.false_eq_true, reduceCtorEq, decide_eq_true_eq, cdec_eq, cdec_ne, beq_iff_eq, Bool.not_eq_true']
    refine draw_wp h1 (by decide) (by decide) fun r f2 r0 r1 h2 => ?_
    try simp only [wpS_seq, wpS_next, wpS_if, wpS_ite, wpS_thn, wpS_ret, wpS_retO, wpS_drop, wpS_bad, wpS_nx, wpS_rt, wpS_sbad, wpS_ofO, wpS_frz', wpR_ok, wpR_bad, wpR_bind, wpR_ite, wpO_ok, wpO_bad, wpO_ite, wpO_toR, wpO_toR', wpO_toRO, wpX_ok, wpX_exc, wpX_bad, wpX_ite, wpX_ofD, wpX_noExc, wpO_ofD, wp_toRO1, wpR_noExc,
 sAsg, sAsgO, sOwnSet, sPar, putFro_if, putOwn_if, sto_no, sto_fro, sto_own, frz, dVar, dC, dOp, dUn, dLs, aNil, aCons, dB, asB, dAnd, dOr, dNot, dAndV, dOrV, dNotV, dIfE, dTru, ofB, dFr, dMove, dTup, dLsO, opLst, dSl, pNone, pSome, asI, dOwnIx, ownL, dOwnLen, dOwnSl, dAppend, dPop, dCall0, dCall1, DL.call1, dMeth0, isC, wp_make, List.append_nil, dFld, oFldN, dOwnFld, sOwnFld, sf_00, sf_11, sf_22, sf_33, sf_0, sf_1, sf_2, sf_3, ownI, dCatO, iLst, asL, iRg, asRg, iRg3, asRg3, sFor, sWhile, dComp, wipeR,
 i_add, i_op0, i_op, i_eq, i_ne, s_eq, s_ne, s_add, l_ix, t_ix, l_add, l_cat, i_int, b_int, i_abs, l_len, t_len, r_len, s_len, i_str, i_max, i_min, oNeg, atI_0, atI_1, atI_2, atI_3, atI_m1, ixNL_0, ixNL_1, ixNL_2, ixNL_3,
 get_0, get_1, get_2, get_3, get_4, get_5, get_6, get_7, get_8, get_9, set_0, set_1, set_2, set_3, set_4, set_5, set_6, set_7, set_8, set_9, isT_tup, isT_str, isT_int, isT_bool, isT_lst, isC_ok, Bool.not_true, Bool.not_false, ln_0, ln_1, ln_2, ln_3, ln_4, lm_0, lm_1, lm_2, lm_3, lm_4, lm_5, lm_6, Option.bind_some, Option.bind_none, true_and, and_true, eq_self, ioIs, ite_and, if_true, if_false, ite_true, ite_false, reduceIte, Bool.false_eq_true, reduceCtorEq, decide_eq_true_eq, cdec_eq, cdec_ne, beq_iff_eq, Bool.not_eq_true']
    by_cases c : r = 0
    · rw [if_pos c]
      exact chain_wp hw (by decide) (by decide) h2 q
    · rw [if_neg c]
      by_cases c1 : r < 3
      · rw [if_pos c1]
        refine draw_wp h2 (by decide) (by decide) fun m f3 m0 m1 h3 => ?_
        try simp only [wpS_seq, wpS_next, wpS_if, wpS_ite, wpS_thn, wpS_ret, wpS_retO, wpS_drop, wpS_bad, wpS_nx, wpS_rt, wpS_sbad, wpS_ofO, wpS_frz', wpR_ok, wpR_bad, wpR_bind, wpR_ite, wpO_ok, wpO_bad, wpO_ite, wpO_toR, wpO_toR', wpO_toRO, wpX_ok, wpX_exc, wpX_bad, wpX_ite, wpX_ofD, wpX_noExc, wpO_ofD, wp_toRO1, wpR_noExc,
 sAsg, sAsgO, sOwnSet, sPar, putFro_if, putOwn_if, sto_no, sto_fro, sto_own, frz, dVar, dC, dOp, dUn, dLs, aNil, aCons, dB, asB, dAnd, dOr, dNot, dAndV, dOrV, dNotV, dIfE, dTru, ofB, dFr, dMove, dTup, dLsO, opLst, dSl, pNone, pSome, asI, dOwnIx, ownL, dOwnLen, dOwnSl, dAppend, dPop, dCall0, dCall1, DL.call1, dMeth0, isC, wp_make, List.append_nil, dFld, oFldN, dOwnFld, sOwnFld, sf_00, sf_11, sf_22, sf_33, sf_0, sf_1, sf_2, sf_3, ownI, dCatO, iLst, asL, iRg, asRg, iRg3, asRg3, sFor, sWhile, dComp, wipeR,
 i_add, i_op0, i_op, i_eq, i_ne, s_eq, s_ne, s_add, l_ix, t_ix, l_add, l_cat, i_int, b_int, i_abs, l_len, t_len, r_len, s_len, i_str, i_max, i_min, oNeg, atI_0, atI_1, atI_2, atI_3, atI_m1, ixNL_0, ixNL_1, ixNL_2, ixNL_3,
 get_0, get_1, get_2, get_3, get_4, get_5, get_6, get_7, get_8, get_9, set_0, set_1, set_2, set_3, set_4, set_5, set_6, set_7, set_8, set_9, isT_tup, isT_str, isT_int, isT_bool, isT_lst, isC_ok, Bool.not_true, Bool.not_false, ln_0, ln_1, ln_2, ln_3, ln_4, lm_0, lm_1, lm_2, lm_3, lm_4, lm_5, lm_6, Option.bind_some, Option.bind_none, true_and, and_true, eq_self, ioIs, ite_and, if_true, if_false, ite_true, ite_false, reduceIte, Bool.false_eq_true, reduceCtorEq, decide_eq_true_eq, cdec_eq, cdec_ne, beq_iff_eq, Bool.not_eq_true']
        exact chain_wp hw m0 (by omega) h3 q
      · rw [if_neg c1]
        by_cases c2 : r = 3
        · rw [if_pos c2]; exact wide_wp hw h2 q
        · rw [if_neg c2]; exact bush_wp hw h2 q
theorem tg_number_letter : (("number" : Str) = "letter") = False := eq_false (by decide +kernel)
theorem tg_number_plus : (("number" : Str) = "plus") = False := eq_false (by decide +kernel)
theorem tg_number_row : (("number" : Str) = "row") = False := eq_false (by decide +kernel)
theorem tg_number_star : (("number" : Str) = "star") = False := eq_false (by decide +kernel)
theorem tg_letter_number : (("letter" : Str) = "number") = False := eq_false (by decide +kernel)
theorem tg_letter_plus : (("letter" : Str) = "plus") = False := eq_false (by decide +kernel)
theorem tg_letter_row : (("letter" : Str) = "row") = False := eq_false (by decide +kernel)
theorem tg_letter_star : (("letter" : Str) = "star") = False := eq_false (by decide +kernel)
theorem tg_plus_number : (("plus" : Str) = "number") = False := eq_false (by decide +kernel)
theorem tg_plus_letter : (("plus" : Str) = "letter") = False := eq_false (by decide +kernel)
theorem tg_plus_row : (("plus" : Str) = "row") = False := eq_false (by decide +kernel)
theorem tg_plus_star : (("plus" : Str) = "star") = False := eq_false (by decide +kernel)
theorem tg_row_number : (("row" : Str) = "number") = False := eq_false (by decide +kernel)
theorem tg_row_letter : (("row" : Str) = "letter") = False := eq_false (by decide +kernel)
theorem tg_row_plus : (("row" : Str) = "plus") = False := eq_false (by decide +kernel)
theorem tg_row_star : (("row" : Str) = "star") = False := eq_false (by decide +kernel)
theorem tg_star_number : (("star" : Str) = "number") = False := eq_false (by decide +kernel)
theorem tg_star_letter : (("star" : Str) = "letter") = False := eq_false (by decide +kernel)
theorem tg_star_plus : (("star" : Str) = "plus") = False := eq_false (by decide +kernel)
theorem tg_star_row : (("star" : Str) = "row") = False := eq_false (by decide +kernel)
theorem sapp (x y : Str) : (x ++ y).length = x.length + y.length := Array.size_append
def numS (i : Int) : Str := Str.ofString (toString i)
def tx (a b : Int) : Str := if b = 1 then numS a else numS a ++ "/" ++ numS b
def wrap (c : Prop) [Decidable c] (x : Str) : Str := if c then "(" ++ x ++ ")" else x
def isP : Tm → Bool
  | .plus _ _ => true
  | _ => false
def isR : Tm → Bool
  | .row _ _ => true
  | _ => false
def wr : Tm → Str
  | .let c => letS c
  | .num a b => tx a b
  | .star t => wrap (isP t = true ∨ isR t = true) (wr t) ++ "*"
  | .plus s t => wr s ++ "+" ++ wrap (isP t = true) (wr t)
  | .row s t => wrap (isP s = true) (wr s) ++ "." ++ wrap (isP t = true ∨ isR t = true) (wr t)
theorem log200 {i : Int} (h : i.natAbs < 2 ^ 200) : i.natAbs.log2 < 1920 := Nat.lt_trans (log2_lt h (by decide)) (by decide)
theorem numS_len {i : Int} (h : i.natAbs < 2 ^ 200) : (numS i).length ≤ 201 := by
  unfold numS
  rw [PySem.ofString_length]
  exact PySem.int_text_length_le (by decide) (log2_lt h (by decide))
theorem lit1 : ("(" : Str).length = 1 ∧ (")" : Str).length = 1 ∧ ("*" : Str).length = 1 ∧ ("+" : Str).length = 1 ∧ ("." : Str).length = 1 ∧ ("/" : Str).length = 1 := by decide +kernel
theorem wrap_len (c : Prop) [Decidable c] (x : Str) : (wrap c x).length ≤ x.length + 2 := by
  obtain ⟨l1, l2, _⟩ := lit1
  unfold wrap; split
  · rw [sapp, sapp, l1, l2]; omega
  · omega
theorem tx_len {a b : Int} (ha : a.natAbs < 2 ^ 200) (hb : b.natAbs < 2 ^ 200) : (tx a b).length ≤ 403 := by
  obtain ⟨_, _, _, _, _, l6⟩ := lit1
  have := numS_len ha
  have := numS_len hb
  unfold tx; split
  · omega
  · rw [sapp, sapp, l6]; omega
theorem wr_len : ∀ {t : Tm}, TmOk t → (wr t).length + 10 ≤ 500 * wt t
  | .let c, _ => by show (1 : Nat) + 10 ≤ 500 * 2; decide
  | .num a b, h => by have := tx_len h.2.2.1 h.2.2.2; show (tx a b).length + 10 ≤ 500 * 2; omega
  | .star t, h => by
    obtain ⟨_, _, l3, _⟩ := lit1
    have := wr_len (t := t) h
    have := wrap_len (isP t = true ∨ isR t = true) (wr t)
    show (wrap _ (wr t) ++ "*").length + 10 ≤ 500 * (wt t + 1)
    rw [sapp, l3]; omega
  | .plus s t, h => by
    obtain ⟨_, _, _, l4, _⟩ := lit1
    have := wr_len (t := s) h.1
    have := wr_len (t := t) h.2
    have := wrap_len (isP t = true) (wr t)
    have := wt_two s
    have := wt_two t
    show (wr s ++ "+" ++ wrap _ (wr t)).length + 10 ≤ 500 * (wt s + wt t)
    rw [sapp, sapp, l4]; omega
  | .row s t, h => by
    obtain ⟨_, _, _, _, l5, _⟩ := lit1
    have := wr_len (t := s) h.1
    have := wr_len (t := t) h.2
    have := wrap_len (isP t = true ∨ isR t = true) (wr t)
    have := wrap_len (isP s = true) (wr s)
    show (wrap _ (wr s) ++ "." ++ wrap _ (wr t)).length + 10 ≤ 500 * (wt s + wt t)
    rw [sapp, sapp, l5]; omega
theorem text_wp {a b : Int} {Q : D → Prop} {Z : Nat → D → Prop} (ha : a.natAbs < 2 ^ 200) (hb : b.natAbs < 2 ^ 200) (q : Q (.str (tx a b))) : (fn_law_text [.tup [.int a, .int b]]).wpX Q Z := by
  obtain ⟨_, _, _, _, _, l6⟩ := lit1
  have la := numS_len ha
  have lb := numS_len hb
  unfold numS at la lb
  unfold tx numS at q
  unfold fn_law_text bd_law_text
  rw [wp_fn0, show initR 1 [.tup [.int a, .int b]] = [.fro (.tup [.int a, .int b])] from rfl]
  try simp only [wpS_seq, wpS_next, wpS_if, wpS_ite, wpS_thn, wpS_ret, wpS_retO, wpS_drop, wpS_bad, wpS_nx, wpS_rt, wpS_sbad, wpS_ofO, wpS_frz', wpR_ok, wpR_bad, wpR_bind, wpR_ite, wpO_ok, wpO_bad, wpO_ite, wpO_toR, wpO_toR', wpO_toRO, wpX_ok, wpX_exc, wpX_bad, wpX_ite, wpX_ofD, wpX_noExc, wpO_ofD, wp_toRO1, wpR_noExc,
 sAsg, sAsgO, sOwnSet, sPar, putFro_if, putOwn_if, sto_no, sto_fro, sto_own, frz, dVar, dC, dOp, dUn, dLs, aNil, aCons, dB, asB, dAnd, dOr, dNot, dAndV, dOrV, dNotV, dIfE, dTru, ofB, dFr, dMove, dTup, dLsO, opLst, dSl, pNone, pSome, asI, dOwnIx, ownL, dOwnLen, dOwnSl, dAppend, dPop, dCall0, dCall1, DL.call1, dMeth0, isC, wp_make, List.append_nil, dFld, oFldN, dOwnFld, sOwnFld, sf_00, sf_11, sf_22, sf_33, sf_0, sf_1, sf_2, sf_3, ownI, dCatO, iLst, asL, iRg, asRg, iRg3, asRg3, sFor, sWhile, dComp, wipeR,
 i_add, i_op0, i_op, i_eq, i_ne, s_eq, s_ne, s_add, l_ix, t_ix, l_add, l_cat, i_int, b_int, i_abs, l_len, t_len, r_len, s_len, i_str, i_max, i_min, oNeg, atI_0, atI_1, atI_2, atI_3, atI_m1, ixNL_0, ixNL_1, ixNL_2, ixNL_3,
 get_0, get_1, get_2, get_3, get_4, get_5, get_6, get_7, get_8, get_9, set_0, set_1, set_2, set_3, set_4, set_5, set_6, set_7, set_8, set_9, isT_tup, isT_str, isT_int, isT_bool, isT_lst, isC_ok, Bool.not_true, Bool.not_false, ln_0, ln_1, ln_2, ln_3, ln_4, lm_0, lm_1, lm_2, lm_3, lm_4, lm_5, lm_6, Option.bind_some, Option.bind_none, true_and, and_true, eq_self, ioIs, ite_and, if_true, if_false, ite_true, ite_false, reduceIte, Bool.false_eq_true, reduceCtorEq, decide_eq_true_eq, cdec_eq, cdec_ne, beq_iff_eq, Bool.not_eq_true']
  by_cases c : b = 1
  · rw [if_pos c] at q ⊢
    exact ⟨log200 ha, q⟩
  · rw [if_neg c] at q ⊢
    refine ⟨log200 ha, len_le (by rw [l6]; omega), log200 hb, len_le (by rw [sapp, l6]; omega), q⟩
theorem rtext_wp {a b : Int} {Q : D → Prop} {Z : Nat → D → Prop} (ha : a.natAbs < 2 ^ 200) (hb : b.natAbs < 2 ^ 200) (q : Q (.str (tx a b))) : (fn_Ratio_text [.ins 0 [.int a, .int b]]).wpX Q Z := by
  obtain ⟨_, _, _, _, _, l6⟩ := lit1
  have la := numS_len ha
  have lb := numS_len hb
  unfold numS at la lb
  unfold tx numS at q
  have i0 : (nmW 0).idxOf ("top" : Str) = 0 := by decide +kernel
  have i1 : (nmW 0).idxOf ("bottom" : Str) = 1 := by decide +kernel
  have m0 : (0 ∈ ([0] : List Nat)) = True := by simp
  unfold fn_Ratio_text bd_Ratio_text
  rw [wp_fn0, show initR 1 [.ins 0 [.int a, .int b]] = [.fro (.ins 0 [.int a, .int b])] from rfl]
  try simp only [wpS_seq, wpS_next, wpS_if, wpS_ite, wpS_thn, wpS_ret, wpS_retO, wpS_drop, wpS_bad, wpS_nx, wpS_rt, wpS_sbad, wpS_ofO, wpS_frz', wpR_ok, wpR_bad, wpR_bind, wpR_ite, wpO_ok, wpO_bad, wpO_ite, wpO_toR, wpO_toR', wpO_toRO, wpX_ok, wpX_exc, wpX_bad, wpX_ite, wpX_ofD, wpX_noExc, wpO_ofD, wp_toRO1, wpR_noExc,
 sAsg, sAsgO, sOwnSet, sPar, putFro_if, putOwn_if, sto_no, sto_fro, sto_own, frz, dVar, dC, dOp, dUn, dLs, aNil, aCons, dB, asB, dAnd, dOr, dNot, dAndV, dOrV, dNotV, dIfE, dTru, ofB, dFr, dMove, dTup, dLsO, opLst, dSl, pNone, pSome, asI, dOwnIx, ownL, dOwnLen, dOwnSl, dAppend, dPop, dCall0, dCall1, DL.call1, dMeth0, isC, wp_make, List.append_nil, dFld, oFldN, dOwnFld, sOwnFld, sf_00, sf_11, sf_22, sf_33, sf_0, sf_1, sf_2, sf_3, ownI, dCatO, iLst, asL, iRg, asRg, iRg3, asRg3, sFor, sWhile, dComp, wipeR,
 i_add, i_op0, i_op, i_eq, i_ne, s_eq, s_ne, s_add, l_ix, t_ix, l_add, l_cat, i_int, b_int, i_abs, l_len, t_len, r_len, s_len, i_str, i_max, i_min, oNeg, atI_0, atI_1, atI_2, atI_3, atI_m1, ixNL_0, ixNL_1, ixNL_2, ixNL_3,
 get_0, get_1, get_2, get_3, get_4, get_5, get_6, get_7, get_8, get_9, set_0, set_1, set_2, set_3, set_4, set_5, set_6, set_7, set_8, set_9, isT_tup, isT_str, isT_int, isT_bool, isT_lst, isC_ok, Bool.not_true, Bool.not_false, ln_0, ln_1, ln_2, ln_3, ln_4, lm_0, lm_1, lm_2, lm_3, lm_4, lm_5, lm_6, Option.bind_some, Option.bind_none, true_and, and_true, eq_self, ioIs, ite_and, if_true, if_false, ite_true, ite_false, reduceIte, Bool.false_eq_true, reduceCtorEq, decide_eq_true_eq, cdec_eq, cdec_ne, beq_iff_eq, Bool.not_eq_true', i0, i1, m0]
  by_cases c : b = 1
  · rw [if_pos c] at q ⊢
    exact ⟨log200 ha, q⟩
  · rw [if_neg c] at q ⊢
    refine ⟨log200 ha, len_le (by rw [l6]; omega), log200 hb, len_le (by rw [sapp, l6]; omega), q⟩
/-- the term made of the program's numbers -/
theorem made_wp : ∀ {t : Tm} {n : Nat} {Q : D → Prop} {Z : Nat → D → Prop}, TmOk t → wt t ≤ n → Q (mdD t) → (fn_law_made n [tmD t]).wpX Q Z
  | t, 0, _, _, _, h, _ => by have := wt_two t; omega
  | t, n + 1, Q, Z, ok, h, q => by
    unfold fn_law_made bd_law_made
    rw [wp_fn0, show initR 1 [tmD t] = [.fro (tmD t)] from rfl]
    cases t with
    | «let» c =>
      unfold tmD
      try simp only [wpS_seq, wpS_next, wpS_if, wpS_ite, wpS_thn, wpS_ret, wpS_retO, wpS_drop, wpS_bad, wpS_nx, wpS_rt, wpS_sbad, wpS_ofO, wpS_frz', wpR_ok, wpR_bad, wpR_bind, wpR_ite, wpO_ok, wpO_bad, wpO_ite, wpO_toR, wpO_toR', wpO_toRO, wpX_ok, wpX_exc, wpX_bad, wpX_ite, wpX_ofD, wpX_noExc, wpO_ofD, wp_toRO1, wpR_noExc,
 sAsg, sAsgO, sOwnSet, sPar, putFro_if, putOwn_if, sto_no, sto_fro, sto_own, frz, dVar, dC, dOp, dUn, dLs, aNil, aCons, dB, asB, dAnd, dOr, dNot, dAndV, dOrV, dNotV, dIfE, dTru, ofB, dFr, dMove, dTup, dLsO, opLst, dSl, pNone, pSome, asI, dOwnIx, ownL, dOwnLen, dOwnSl, dAppend, dPop, dCall0, dCall1, DL.call1, dMeth0, isC, wp_make, List.append_nil, dFld, oFldN, dOwnFld, sOwnFld, sf_00, sf_11, sf_22, sf_33, sf_0, sf_1, sf_2, sf_3, ownI, dCatO, iLst, asL, iRg, asRg, iRg3, asRg3, sFor, sWhile, dComp, wipeR,
 i_add, i_op0, i_op, i_eq, i_ne, s_eq, s_ne, s_add, l_ix, t_ix, l_add, l_cat, i_int, b_int, i_abs, l_len, t_len, r_len, s_len, i_str, i_max, i_min, oNeg, atI_0, atI_1, atI_2, atI_3, atI_m1, ixNL_0, ixNL_1, ixNL_2, ixNL_3,
 get_0, get_1, get_2, get_3, get_4, get_5, get_6, get_7, get_8, get_9, set_0, set_1, set_2, set_3, set_4, set_5, set_6, set_7, set_8, set_9, isT_tup, isT_str, isT_int, isT_bool, isT_lst, isC_ok, Bool.not_true, Bool.not_false, ln_0, ln_1, ln_2, ln_3, ln_4, lm_0, lm_1, lm_2, lm_3, lm_4, lm_5, lm_6, Option.bind_some, Option.bind_none, true_and, and_true, eq_self, ioIs, ite_and, if_true, if_false, ite_true, ite_false, reduceIte, Bool.false_eq_true, reduceCtorEq, decide_eq_true_eq, cdec_eq, cdec_ne, beq_iff_eq, Bool.not_eq_true', tg_number_letter, tg_number_plus, tg_number_row, tg_number_star, tg_letter_number, tg_letter_plus, tg_letter_row, tg_letter_star, tg_plus_number, tg_plus_letter, tg_plus_row, tg_plus_star, tg_row_number, tg_row_letter, tg_row_plus, tg_row_star, tg_star_number, tg_star_letter, tg_star_plus, tg_star_row]
      exact q
    | num a b =>
      unfold tmD
      try simp only [wpS_seq, wpS_next, wpS_if, wpS_ite, wpS_thn, wpS_ret, wpS_retO, wpS_drop, wpS_bad, wpS_nx, wpS_rt, wpS_sbad, wpS_ofO, wpS_frz', wpR_ok, wpR_bad, wpR_bind, wpR_ite, wpO_ok, wpO_bad, wpO_ite, wpO_toR, wpO_toR', wpO_toRO, wpX_ok, wpX_exc, wpX_bad, wpX_ite, wpX_ofD, wpX_noExc, wpO_ofD, wp_toRO1, wpR_noExc,
 sAsg, sAsgO, sOwnSet, sPar, putFro_if, putOwn_if, sto_no, sto_fro, sto_own, frz, dVar, dC, dOp, dUn, dLs, aNil, aCons, dB, asB, dAnd, dOr, dNot, dAndV, dOrV, dNotV, dIfE, dTru, ofB, dFr, dMove, dTup, dLsO, opLst, dSl, pNone, pSome, asI, dOwnIx, ownL, dOwnLen, dOwnSl, dAppend, dPop, dCall0, dCall1, DL.call1, dMeth0, isC, wp_make, List.append_nil, dFld, oFldN, dOwnFld, sOwnFld, sf_00, sf_11, sf_22, sf_33, sf_0, sf_1, sf_2, sf_3, ownI, dCatO, iLst, asL, iRg, asRg, iRg3, asRg3, sFor, sWhile, dComp, wipeR,
 i_add, i_op0, i_op, i_eq, i_ne, s_eq, s_ne, s_add, l_ix, t_ix, l_add, l_cat, i_int, b_int, i_abs, l_len, t_len, r_len, s_len, i_str, i_max, i_min, oNeg, atI_0, atI_1, atI_2, atI_3, atI_m1, ixNL_0, ixNL_1, ixNL_2, ixNL_3,
 get_0, get_1, get_2, get_3, get_4, get_5, get_6, get_7, get_8, get_9, set_0, set_1, set_2, set_3, set_4, set_5, set_6, set_7, set_8, set_9, isT_tup, isT_str, isT_int, isT_bool, isT_lst, isC_ok, Bool.not_true, Bool.not_false, ln_0, ln_1, ln_2, ln_3, ln_4, lm_0, lm_1, lm_2, lm_3, lm_4, lm_5, lm_6, Option.bind_some, Option.bind_none, true_and, and_true, eq_self, ioIs, ite_and, if_true, if_false, ite_true, ite_false, reduceIte, Bool.false_eq_true, reduceCtorEq, decide_eq_true_eq, cdec_eq, cdec_ne, beq_iff_eq, Bool.not_eq_true', tg_number_letter, tg_number_plus, tg_number_row, tg_number_star, tg_letter_number, tg_letter_plus, tg_letter_row, tg_letter_star, tg_plus_number, tg_plus_letter, tg_plus_row, tg_plus_star, tg_row_number, tg_row_letter, tg_row_plus, tg_row_star, tg_star_number, tg_star_letter, tg_star_plus, tg_star_row]
      have g := pa_id ok.1 ok.2.1
      refine ratio_wp (k := 200) (by have := ok.1; omega) ok.2.2.2 (by decide) (by decide) ?_
      try simp only [wpS_seq, wpS_next, wpS_if, wpS_ite, wpS_thn, wpS_ret, wpS_retO, wpS_drop, wpS_bad, wpS_nx, wpS_rt, wpS_sbad, wpS_ofO, wpS_frz', wpR_ok, wpR_bad, wpR_bind, wpR_ite, wpO_ok, wpO_bad, wpO_ite, wpO_toR, wpO_toR', wpO_toRO, wpX_ok, wpX_exc, wpX_bad, wpX_ite, wpX_ofD, wpX_noExc, wpO_ofD, wp_toRO1, wpR_noExc,
 sAsg, sAsgO, sOwnSet, sPar, putFro_if, putOwn_if, sto_no, sto_fro, sto_own, frz, dVar, dC, dOp, dUn, dLs, aNil, aCons, dB, asB, dAnd, dOr, dNot, dAndV, dOrV, dNotV, dIfE, dTru, ofB, dFr, dMove, dTup, dLsO, opLst, dSl, pNone, pSome, asI, dOwnIx, ownL, dOwnLen, dOwnSl, dAppend, dPop, dCall0, dCall1, DL.call1, dMeth0, isC, wp_make, List.append_nil, dFld, oFldN, dOwnFld, sOwnFld, sf_00, sf_11, sf_22, sf_33, sf_0, sf_1, sf_2, sf_3, ownI, dCatO, iLst, asL, iRg, asRg, iRg3, asRg3, sFor, sWhile, dComp, wipeR,
 i_add, i_op0, i_op, i_eq, i_ne, s_eq, s_ne, s_add, l_ix, t_ix, l_add, l_cat, i_int, b_int, i_abs, l_len, t_len, r_len, s_len, i_str, i_max, i_min, oNeg, atI_0, atI_1, atI_2, atI_3, atI_m1, ixNL_0, ixNL_1, ixNL_2, ixNL_3,
 get_0, get_1, get_2, get_3, get_4, get_5, get_6, get_7, get_8, get_9, set_0, set_1, set_2, set_3, set_4, set_5, set_6, set_7, set_8, set_9, isT_tup, isT_str, isT_int, isT_bool, isT_lst, isC_ok, Bool.not_true, Bool.not_false, ln_0, ln_1, ln_2, ln_3, ln_4, lm_0, lm_1, lm_2, lm_3, lm_4, lm_5, lm_6, Option.bind_some, Option.bind_none, true_and, and_true, eq_self, ioIs, ite_and, if_true, if_false, ite_true, ite_false, reduceIte, Bool.false_eq_true, reduceCtorEq, decide_eq_true_eq, cdec_eq, cdec_ne, beq_iff_eq, Bool.not_eq_true']
      rw [g.1, g.2]
      exact q
    | star t =>
      unfold tmD
      try simp only [wpS_seq, wpS_next, wpS_if, wpS_ite, wpS_thn, wpS_ret, wpS_retO, wpS_drop, wpS_bad, wpS_nx, wpS_rt, wpS_sbad, wpS_ofO, wpS_frz', wpR_ok, wpR_bad, wpR_bind, wpR_ite, wpO_ok, wpO_bad, wpO_ite, wpO_toR, wpO_toR', wpO_toRO, wpX_ok, wpX_exc, wpX_bad, wpX_ite, wpX_ofD, wpX_noExc, wpO_ofD, wp_toRO1, wpR_noExc,
 sAsg, sAsgO, sOwnSet, sPar, putFro_if, putOwn_if, sto_no, sto_fro, sto_own, frz, dVar, dC, dOp, dUn, dLs, aNil, aCons, dB, asB, dAnd, dOr, dNot, dAndV, dOrV, dNotV, dIfE, dTru, ofB, dFr, dMove, dTup, dLsO, opLst, dSl, pNone, pSome, asI, dOwnIx, ownL, dOwnLen, dOwnSl, dAppend, dPop, dCall0, dCall1, DL.call1, dMeth0, isC, wp_make, List.append_nil, dFld, oFldN, dOwnFld, sOwnFld, sf_00, sf_11, sf_22, sf_33, sf_0, sf_1, sf_2, sf_3, ownI, dCatO, iLst, asL, iRg, asRg, iRg3, asRg3, sFor, sWhile, dComp, wipeR,
 i_add, i_op0, i_op, i_eq, i_ne, s_eq, s_ne, s_add, l_ix, t_ix, l_add, l_cat, i_int, b_int, i_abs, l_len, t_len, r_len, s_len, i_str, i_max, i_min, oNeg, atI_0, atI_1, atI_2, atI_3, atI_m1, ixNL_0, ixNL_1, ixNL_2, ixNL_3,
 get_0, get_1, get_2, get_3, get_4, get_5, get_6, get_7, get_8, get_9, set_0, set_1, set_2, set_3, set_4, set_5, set_6, set_7, set_8, set_9, isT_tup, isT_str, isT_int, isT_bool, isT_lst, isC_ok, Bool.not_true, Bool.not_false, ln_0, ln_1, ln_2, ln_3, ln_4, lm_0, lm_1, lm_2, lm_3, lm_4, lm_5, lm_6, Option.bind_some, Option.bind_none, true_and, and_true, eq_self, ioIs, ite_and, if_true, if_false, ite_true, ite_false, reduceIte, Bool.false_eq_true, reduceCtorEq, decide_eq_true_eq, cdec_eq, cdec_ne, beq_iff_eq, Bool.not_eq_true', tg_number_letter, tg_number_plus, tg_number_row, tg_number_star, tg_letter_number, tg_letter_plus, tg_letter_row, tg_letter_star, tg_plus_number, tg_plus_letter, tg_plus_row, tg_plus_star, tg_row_number, tg_row_letter, tg_row_plus, tg_row_star, tg_star_number, tg_star_letter, tg_star_plus, tg_star_row]
      refine made_wp (t := t) ok (by have : wt t + 1 ≤ n + 1 := h; omega) ?_
      try simp only [wpS_seq, wpS_next, wpS_if, wpS_ite, wpS_thn, wpS_ret, wpS_retO, wpS_drop, wpS_bad, wpS_nx, wpS_rt, wpS_sbad, wpS_ofO, wpS_frz', wpR_ok, wpR_bad, wpR_bind, wpR_ite, wpO_ok, wpO_bad, wpO_ite, wpO_toR, wpO_toR', wpO_toRO, wpX_ok, wpX_exc, wpX_bad, wpX_ite, wpX_ofD, wpX_noExc, wpO_ofD, wp_toRO1, wpR_noExc,
 sAsg, sAsgO, sOwnSet, sPar, putFro_if, putOwn_if, sto_no, sto_fro, sto_own, frz, dVar, dC, dOp, dUn, dLs, aNil, aCons, dB, asB, dAnd, dOr, dNot, dAndV, dOrV, dNotV, dIfE, dTru, ofB, dFr, dMove, dTup, dLsO, opLst, dSl, pNone, pSome, asI, dOwnIx, ownL, dOwnLen, dOwnSl, dAppend, dPop, dCall0, dCall1, DL.call1, dMeth0, isC, wp_make, List.append_nil, dFld, oFldN, dOwnFld, sOwnFld, sf_00, sf_11, sf_22, sf_33, sf_0, sf_1, sf_2, sf_3, ownI, dCatO, iLst, asL, iRg, asRg, iRg3, asRg3, sFor, sWhile, dComp, wipeR,
 i_add, i_op0, i_op, i_eq, i_ne, s_eq, s_ne, s_add, l_ix, t_ix, l_add, l_cat, i_int, b_int, i_abs, l_len, t_len, r_len, s_len, i_str, i_max, i_min, oNeg, atI_0, atI_1, atI_2, atI_3, atI_m1, ixNL_0, ixNL_1, ixNL_2, ixNL_3,
 get_0, get_1, get_2, get_3, get_4, get_5, get_6, get_7, get_8, get_9, set_0, set_1, set_2, set_3, set_4, set_5, set_6, set_7, set_8, set_9, isT_tup, isT_str, isT_int, isT_bool, isT_lst, isC_ok, Bool.not_true, Bool.not_false, ln_0, ln_1, ln_2, ln_3, ln_4, lm_0, lm_1, lm_2, lm_3, lm_4, lm_5, lm_6, Option.bind_some, Option.bind_none, true_and, and_true, eq_self, ioIs, ite_and, if_true, if_false, ite_true, ite_false, reduceIte, Bool.false_eq_true, reduceCtorEq, decide_eq_true_eq, cdec_eq, cdec_ne, beq_iff_eq, Bool.not_eq_true']
      exact q
    | plus s t =>
      unfold tmD
      try simp only [wpS_seq, wpS_next, wpS_if, wpS_ite, wpS_thn, wpS_ret, wpS_retO, wpS_drop, wpS_bad, wpS_nx, wpS_rt, wpS_sbad, wpS_ofO, wpS_frz', wpR_ok, wpR_bad, wpR_bind, wpR_ite, wpO_ok, wpO_bad, wpO_ite, wpO_toR, wpO_toR', wpO_toRO, wpX_ok, wpX_exc, wpX_bad, wpX_ite, wpX_ofD, wpX_noExc, wpO_ofD, wp_toRO1, wpR_noExc,
 sAsg, sAsgO, sOwnSet, sPar, putFro_if, putOwn_if, sto_no, sto_fro, sto_own, frz, dVar, dC, dOp, dUn, dLs, aNil, aCons, dB, asB, dAnd, dOr, dNot, dAndV, dOrV, dNotV, dIfE, dTru, ofB, dFr, dMove, dTup, dLsO, opLst, dSl, pNone, pSome, asI, dOwnIx, ownL, dOwnLen, dOwnSl, dAppend, dPop, dCall0, dCall1, DL.call1, dMeth0, isC, wp_make, List.append_nil, dFld, oFldN, dOwnFld, sOwnFld, sf_00, sf_11, sf_22, sf_33, sf_0, sf_1, sf_2, sf_3, ownI, dCatO, iLst, asL, iRg, asRg, iRg3, asRg3, sFor, sWhile, dComp, wipeR,
 i_add, i_op0, i_op, i_eq, i_ne, s_eq, s_ne, s_add, l_ix, t_ix, l_add, l_cat, i_int, b_int, i_abs, l_len, t_len, r_len, s_len, i_str, i_max, i_min, oNeg, atI_0, atI_1, atI_2, atI_3, atI_m1, ixNL_0, ixNL_1, ixNL_2, ixNL_3,
 get_0, get_1, get_2, get_3, get_4, get_5, get_6, get_7, get_8, get_9, set_0, set_1, set_2, set_3, set_4, set_5, set_6, set_7, set_8, set_9, isT_tup, isT_str, isT_int, isT_bool, isT_lst, isC_ok, Bool.not_true, Bool.not_false, ln_0, ln_1, ln_2, ln_3, ln_4, lm_0, lm_1, lm_2, lm_3, lm_4, lm_5, lm_6, Option.bind_some, Option.bind_none, true_and, and_true, eq_self, ioIs, ite_and, if_true, if_false, ite_true, ite_false, reduceIte, Bool.false_eq_true, reduceCtorEq, decide_eq_true_eq, cdec_eq, cdec_ne, beq_iff_eq, Bool.not_eq_true', tg_number_letter, tg_number_plus, tg_number_row, tg_number_star, tg_letter_number, tg_letter_plus, tg_letter_row, tg_letter_star, tg_plus_number, tg_plus_letter, tg_plus_row, tg_plus_star, tg_row_number, tg_row_letter, tg_row_plus, tg_row_star, tg_star_number, tg_star_letter, tg_star_plus, tg_star_row]
      have h : wt s + wt t ≤ n + 1 := h
      have := wt_two s
      have := wt_two t
      refine made_wp (t := s) ok.1 (by omega) ?_
      try simp only [wpS_seq, wpS_next, wpS_if, wpS_ite, wpS_thn, wpS_ret, wpS_retO, wpS_drop, wpS_bad, wpS_nx, wpS_rt, wpS_sbad, wpS_ofO, wpS_frz', wpR_ok, wpR_bad, wpR_bind, wpR_ite, wpO_ok, wpO_bad, wpO_ite, wpO_toR, wpO_toR', wpO_toRO, wpX_ok, wpX_exc, wpX_bad, wpX_ite, wpX_ofD, wpX_noExc, wpO_ofD, wp_toRO1, wpR_noExc,
 sAsg, sAsgO, sOwnSet, sPar, putFro_if, putOwn_if, sto_no, sto_fro, sto_own, frz, dVar, dC, dOp, dUn, dLs, aNil, aCons, dB, asB, dAnd, dOr, dNot, dAndV, dOrV, dNotV, dIfE, dTru, ofB, dFr, dMove, dTup, dLsO, opLst, dSl, pNone, pSome, asI, dOwnIx, ownL, dOwnLen, dOwnSl, dAppend, dPop, dCall0, dCall1, DL.call1, dMeth0, isC, wp_make, List.append_nil, dFld, oFldN, dOwnFld, sOwnFld, sf_00, sf_11, sf_22, sf_33, sf_0, sf_1, sf_2, sf_3, ownI, dCatO, iLst, asL, iRg, asRg, iRg3, asRg3, sFor, sWhile, dComp, wipeR,
 i_add, i_op0, i_op, i_eq, i_ne, s_eq, s_ne, s_add, l_ix, t_ix, l_add, l_cat, i_int, b_int, i_abs, l_len, t_len, r_len, s_len, i_str, i_max, i_min, oNeg, atI_0, atI_1, atI_2, atI_3, atI_m1, ixNL_0, ixNL_1, ixNL_2, ixNL_3,
 get_0, get_1, get_2, get_3, get_4, get_5, get_6, get_7, get_8, get_9, set_0, set_1, set_2, set_3, set_4, set_5, set_6, set_7, set_8, set_9, isT_tup, isT_str, isT_int, isT_bool, isT_lst, isC_ok, Bool.not_true, Bool.not_false, ln_0, ln_1, ln_2, ln_3, ln_4, lm_0, lm_1, lm_2, lm_3, lm_4, lm_5, lm_6, Option.bind_some, Option.bind_none, true_and, and_true, eq_self, ioIs, ite_and, if_true, if_false, ite_true, ite_false, reduceIte, Bool.false_eq_true, reduceCtorEq, decide_eq_true_eq, cdec_eq, cdec_ne, beq_iff_eq, Bool.not_eq_true']
      refine made_wp (t := t) ok.2 (by omega) ?_
      try simp only [wpS_seq, wpS_next, wpS_if, wpS_ite, wpS_thn, wpS_ret, wpS_retO, wpS_drop, wpS_bad, wpS_nx, wpS_rt, wpS_sbad, wpS_ofO, wpS_frz', wpR_ok, wpR_bad, wpR_bind, wpR_ite, wpO_ok, wpO_bad, wpO_ite, wpO_toR, wpO_toR', wpO_toRO, wpX_ok, wpX_exc, wpX_bad, wpX_ite, wpX_ofD, wpX_noExc, wpO_ofD, wp_toRO1, wpR_noExc,
 sAsg, sAsgO, sOwnSet, sPar, putFro_if, putOwn_if, sto_no, sto_fro, sto_own, frz, dVar, dC, dOp, dUn, dLs, aNil, aCons, dB, asB, dAnd, dOr, dNot, dAndV, dOrV, dNotV, dIfE, dTru, ofB, dFr, dMove, dTup, dLsO, opLst, dSl, pNone, pSome, asI, dOwnIx, ownL, dOwnLen, dOwnSl, dAppend, dPop, dCall0, dCall1, DL.call1, dMeth0, isC, wp_make, List.append_nil, dFld, oFldN, dOwnFld, sOwnFld, sf_00, sf_11, sf_22, sf_33, sf_0, sf_1, sf_2, sf_3, ownI, dCatO, iLst, asL, iRg, asRg, iRg3, asRg3, sFor, sWhile, dComp, wipeR,
 i_add, i_op0, i_op, i_eq, i_ne, s_eq, s_ne, s_add, l_ix, t_ix, l_add, l_cat, i_int, b_int, i_abs, l_len, t_len, r_len, s_len, i_str, i_max, i_min, oNeg, atI_0, atI_1, atI_2, atI_3, atI_m1, ixNL_0, ixNL_1, ixNL_2, ixNL_3,
 get_0, get_1, get_2, get_3, get_4, get_5, get_6, get_7, get_8, get_9, set_0, set_1, set_2, set_3, set_4, set_5, set_6, set_7, set_8, set_9, isT_tup, isT_str, isT_int, isT_bool, isT_lst, isC_ok, Bool.not_true, Bool.not_false, ln_0, ln_1, ln_2, ln_3, ln_4, lm_0, lm_1, lm_2, lm_3, lm_4, lm_5, lm_6, Option.bind_some, Option.bind_none, true_and, and_true, eq_self, ioIs, ite_and, if_true, if_false, ite_true, ite_false, reduceIte, Bool.false_eq_true, reduceCtorEq, decide_eq_true_eq, cdec_eq, cdec_ne, beq_iff_eq, Bool.not_eq_true']
      exact q
    | row s t =>
      unfold tmD
      try simp only [wpS_seq, wpS_next, wpS_if, wpS_ite, wpS_thn, wpS_ret, wpS_retO, wpS_drop, wpS_bad, wpS_nx, wpS_rt, wpS_sbad, wpS_ofO, wpS_frz', wpR_ok, wpR_bad, wpR_bind, wpR_ite, wpO_ok, wpO_bad, wpO_ite, wpO_toR, wpO_toR', wpO_toRO, wpX_ok, wpX_exc, wpX_bad, wpX_ite, wpX_ofD, wpX_noExc, wpO_ofD, wp_toRO1, wpR_noExc,
 sAsg, sAsgO, sOwnSet, sPar, putFro_if, putOwn_if, sto_no, sto_fro, sto_own, frz, dVar, dC, dOp, dUn, dLs, aNil, aCons, dB, asB, dAnd, dOr, dNot, dAndV, dOrV, dNotV, dIfE, dTru, ofB, dFr, dMove, dTup, dLsO, opLst, dSl, pNone, pSome, asI, dOwnIx, ownL, dOwnLen, dOwnSl, dAppend, dPop, dCall0, dCall1, DL.call1, dMeth0, isC, wp_make, List.append_nil, dFld, oFldN, dOwnFld, sOwnFld, sf_00, sf_11, sf_22, sf_33, sf_0, sf_1, sf_2, sf_3, ownI, dCatO, iLst, asL, iRg, asRg, iRg3, asRg3, sFor, sWhile, dComp, wipeR,
 i_add, i_op0, i_op, i_eq, i_ne, s_eq, s_ne, s_add, l_ix, t_ix, l_add, l_cat, i_int, b_int, i_abs, l_len, t_len, r_len, s_len, i_str, i_max, i_min, oNeg, atI_0, atI_1, atI_2, atI_3, atI_m1, ixNL_0, ixNL_1, ixNL_2, ixNL_3,
 get_0, get_1, get_2, get_3, get_4, get_5, get_6, get_7, get_8, get_9, set_0, set_1, set_2, set_3, set_4, set_5, set_6, set_7, set_8, set_9, isT_tup, isT_str, isT_int, isT_bool, isT_lst, isC_ok, Bool.not_true, Bool.not_false, ln_0, ln_1, ln_2, ln_3, ln_4, lm_0, lm_1, lm_2, lm_3, lm_4, lm_5, lm_6, Option.bind_some, Option.bind_none, true_and, and_true, eq_self, ioIs, ite_and, if_true, if_false, ite_true, ite_false, reduceIte, Bool.false_eq_true, reduceCtorEq, decide_eq_true_eq, cdec_eq, cdec_ne, beq_iff_eq, Bool.not_eq_true', tg_number_letter, tg_number_plus, tg_number_row, tg_number_star, tg_letter_number, tg_letter_plus, tg_letter_row, tg_letter_star, tg_plus_number, tg_plus_letter, tg_plus_row, tg_plus_star, tg_row_number, tg_row_letter, tg_row_plus, tg_row_star, tg_star_number, tg_star_letter, tg_star_plus, tg_star_row]
      have h : wt s + wt t ≤ n + 1 := h
      have := wt_two s
      have := wt_two t
      refine made_wp (t := s) ok.1 (by omega) ?_
      try simp only [wpS_seq, wpS_next, wpS_if, wpS_ite, wpS_thn, wpS_ret, wpS_retO, wpS_drop, wpS_bad, wpS_nx, wpS_rt, wpS_sbad, wpS_ofO, wpS_frz', wpR_ok, wpR_bad, wpR_bind, wpR_ite, wpO_ok, wpO_bad, wpO_ite, wpO_toR, wpO_toR', wpO_toRO, wpX_ok, wpX_exc, wpX_bad, wpX_ite, wpX_ofD, wpX_noExc, wpO_ofD, wp_toRO1, wpR_noExc,
 sAsg, sAsgO, sOwnSet, sPar, putFro_if, putOwn_if, sto_no, sto_fro, sto_own, frz, dVar, dC, dOp, dUn, dLs, aNil, aCons, dB, asB, dAnd, dOr, dNot, dAndV, dOrV, dNotV, dIfE, dTru, ofB, dFr, dMove, dTup, dLsO, opLst, dSl, pNone, pSome, asI, dOwnIx, ownL, dOwnLen, dOwnSl, dAppend, dPop, dCall0, dCall1, DL.call1, dMeth0, isC, wp_make, List.append_nil, dFld, oFldN, dOwnFld, sOwnFld, sf_00, sf_11, sf_22, sf_33, sf_0, sf_1, sf_2, sf_3, ownI, dCatO, iLst, asL, iRg, asRg, iRg3, asRg3, sFor, sWhile, dComp, wipeR,
 i_add, i_op0, i_op, i_eq, i_ne, s_eq, s_ne, s_add, l_ix, t_ix, l_add, l_cat, i_int, b_int, i_abs, l_len, t_len, r_len, s_len, i_str, i_max, i_min, oNeg, atI_0, atI_1, atI_2, atI_3, atI_m1, ixNL_0, ixNL_1, ixNL_2, ixNL_3,
 get_0, get_1, get_2, get_3, get_4, get_5, get_6, get_7, get_8, get_9, set_0, set_1, set_2, set_3, set_4, set_5, set_6, set_7, set_8, set_9, isT_tup, isT_str, isT_int, isT_bool, isT_lst, isC_ok, Bool.not_true, Bool.not_false, ln_0, ln_1, ln_2, ln_3, ln_4, lm_0, lm_1, lm_2, lm_3, lm_4, lm_5, lm_6, Option.bind_some, Option.bind_none, true_and, and_true, eq_self, ioIs, ite_and, if_true, if_false, ite_true, ite_false, reduceIte, Bool.false_eq_true, reduceCtorEq, decide_eq_true_eq, cdec_eq, cdec_ne, beq_iff_eq, Bool.not_eq_true']
      refine made_wp (t := t) ok.2 (by omega) ?_
      try simp only [wpS_seq, wpS_next, wpS_if, wpS_ite, wpS_thn, wpS_ret, wpS_retO, wpS_drop, wpS_bad, wpS_nx, wpS_rt, wpS_sbad, wpS_ofO, wpS_frz', wpR_ok, wpR_bad, wpR_bind, wpR_ite, wpO_ok, wpO_bad, wpO_ite, wpO_toR, wpO_toR', wpO_toRO, wpX_ok, wpX_exc, wpX_bad, wpX_ite, wpX_ofD, wpX_noExc, wpO_ofD, wp_toRO1, wpR_noExc,
 sAsg, sAsgO, sOwnSet, sPar, putFro_if, putOwn_if, sto_no, sto_fro, sto_own, frz, dVar, dC, dOp, dUn, dLs, aNil, aCons, dB, asB, dAnd, dOr, dNot, dAndV, dOrV, dNotV, dIfE, dTru, ofB, dFr, dMove, dTup, dLsO, opLst, dSl, pNone, pSome, asI, dOwnIx, ownL, dOwnLen, dOwnSl, dAppend, dPop, dCall0, dCall1, DL.call1, dMeth0, isC, wp_make, List.append_nil, dFld, oFldN, dOwnFld, sOwnFld, sf_00, sf_11, sf_22, sf_33, sf_0, sf_1, sf_2, sf_3, ownI, dCatO, iLst, asL, iRg, asRg, iRg3, asRg3, sFor, sWhile, dComp, wipeR,
 i_add, i_op0, i_op, i_eq, i_ne, s_eq, s_ne, s_add, l_ix, t_ix, l_add, l_cat, i_int, b_int, i_abs, l_len, t_len, r_len, s_len, i_str, i_max, i_min, oNeg, atI_0, atI_1, atI_2, atI_3, atI_m1, ixNL_0, ixNL_1, ixNL_2, ixNL_3,
 get_0, get_1, get_2, get_3, get_4, get_5, get_6, get_7, get_8, get_9, set_0, set_1, set_2, set_3, set_4, set_5, set_6, set_7, set_8, set_9, isT_tup, isT_str, isT_int, isT_bool, isT_lst, isC_ok, Bool.not_true, Bool.not_false, ln_0, ln_1, ln_2, ln_3, ln_4, lm_0, lm_1, lm_2, lm_3, lm_4, lm_5, lm_6, Option.bind_some, Option.bind_none, true_and, and_true, eq_self, ioIs, ite_and, if_true, if_false, ite_true, ite_false, reduceIte, Bool.false_eq_true, reduceCtorEq, decide_eq_true_eq, cdec_eq, cdec_ne, beq_iff_eq, Bool.not_eq_true']
      exact q
theorem tb_number_letter : (("number" : Str) == "letter") = false := by decide +kernel
theorem tb_number_plus : (("number" : Str) == "plus") = false := by decide +kernel
theorem tb_number_row : (("number" : Str) == "row") = false := by decide +kernel
theorem tb_number_star : (("number" : Str) == "star") = false := by decide +kernel
theorem tb_letter_number : (("letter" : Str) == "number") = false := by decide +kernel
theorem tb_letter_plus : (("letter" : Str) == "plus") = false := by decide +kernel
theorem tb_letter_row : (("letter" : Str) == "row") = false := by decide +kernel
theorem tb_letter_star : (("letter" : Str) == "star") = false := by decide +kernel
theorem tb_plus_number : (("plus" : Str) == "number") = false := by decide +kernel
theorem tb_plus_letter : (("plus" : Str) == "letter") = false := by decide +kernel
theorem tb_plus_row : (("plus" : Str) == "row") = false := by decide +kernel
theorem tb_plus_star : (("plus" : Str) == "star") = false := by decide +kernel
theorem tb_row_number : (("row" : Str) == "number") = false := by decide +kernel
theorem tb_row_letter : (("row" : Str) == "letter") = false := by decide +kernel
theorem tb_row_plus : (("row" : Str) == "plus") = false := by decide +kernel
theorem tb_row_star : (("row" : Str) == "star") = false := by decide +kernel
theorem tb_star_number : (("star" : Str) == "number") = false := by decide +kernel
theorem tb_star_letter : (("star" : Str) == "letter") = false := by decide +kernel
theorem tb_star_plus : (("star" : Str) == "plus") = false := by decide +kernel
theorem tb_star_row : (("star" : Str) == "row") = false := by decide +kernel
def tagS : Tm → Str
  | .let _ => "letter"
  | .num _ _ => "number"
  | .star _ => "star"
  | .plus _ _ => "plus"
  | .row _ _ => "row"
def lvS : Tm → Int
  | .let _ => 3
  | .num _ _ => 3
  | .star _ => 2
  | .plus _ _ => 0
  | .row _ _ => 1
theorem t0 (t : Tm) : oIx (tmD t) (.int 0) = .ok (.str (tagS t)) := by cases t <;> rfl
theorem m0 (t : Tm) : oIx (mdD t) (.int 0) = .ok (.str (tagS t)) := by cases t <;> rfl
theorem in_plus (t : Tm) : oIn false (.str (tagS t)) (.lst [.str "plus"]) = .ok (.bl (isP t)) := by
  show (if true = true then O.ok (.bl ((("plus" : Str) == tagS t) || false)) else .bad) = _
  rw [if_pos rfl, Bool.or_false]
  cases t <;> simp only [tagS, isP, tb_number_letter, tb_number_plus, tb_number_row, tb_number_star, tb_letter_number, tb_letter_plus, tb_letter_row, tb_letter_star, tb_plus_number, tb_plus_letter, tb_plus_row, tb_plus_star, tb_row_number, tb_row_letter, tb_row_plus, tb_row_star, tb_star_number, tb_star_letter, tb_star_plus, tb_star_row, beq_self_eq_true]
theorem in_both (t : Tm) : oIn false (.str (tagS t)) (.lst [.str "plus", .str "row"]) = .ok (.bl (isP t || isR t)) := by
  show (if true = true then O.ok (.bl ((("plus" : Str) == tagS t) || ((("row" : Str) == tagS t) || false))) else .bad) = _
  rw [if_pos rfl, Bool.or_false]
  cases t <;> simp only [tagS, isP, isR, tb_number_letter, tb_number_plus, tb_number_row, tb_number_star, tb_letter_number, tb_letter_plus, tb_letter_row, tb_letter_star, tb_plus_number, tb_plus_letter, tb_plus_row, tb_plus_star, tb_row_number, tb_row_letter, tb_row_plus, tb_row_star, tb_star_number, tb_star_letter, tb_star_plus, tb_star_row, beq_self_eq_true, Bool.or_false, Bool.or_true, Bool.false_or, Bool.true_or]
theorem kd_lv (t : Tm) : oKd kd_LEVELS (.str (tagS t)) = .ok (.int (lvS t)) := by
  show (match kd_LEVELS (tagS t) with | some d => O.ok d | none => .bad) = _
  unfold kd_LEVELS
  cases t <;> simp only [tagS, lvS, List.lookup, tb_number_letter, tb_number_plus, tb_number_row, tb_number_star, tb_letter_number, tb_letter_plus, tb_letter_row, tb_letter_star, tb_plus_number, tb_plus_letter, tb_plus_row, tb_plus_star, tb_row_number, tb_row_letter, tb_row_plus, tb_row_star, tb_star_number, tb_star_letter, tb_star_plus, tb_star_row, beq_self_eq_true]
theorem lv1 (t : Tm) : (lvS t < 1) = (isP t = true) := by cases t <;> simp [lvS, isP]
theorem lv2 (t : Tm) : (lvS t < 2) = (isP t = true ∨ isR t = true) := by cases t <;> simp [lvS, isP, isR]
theorem lv0 (t : Tm) : (lvS t < 0) = False := by cases t <;> simp [lvS]
theorem wrap_if {c d : Prop} [Decidable c] [Decidable d] (h : c = d) (x : Str) : wrap c x = wrap d x := by
  subst h
  unfold wrap
  by_cases z : c <;> simp [z]
theorem most60 {t : Tm} (ok : TmOk t) (h : wt t ≤ 60) : (wr t).length ≤ 30000 := by have := wr_len ok; omega
theorem lpart_wp {t : Tm} {n : Nat} {Q : D → Prop} {Z : Nat → D → Prop} (ok : TmOk t) (h60 : wt t ≤ 60) (ih : ∀ {Q : D → Prop} {Z : Nat → D → Prop}, Q (.str (wr t)) → (fn_law_write n [tmD t]).wpX Q Z) (bs : List D) (b : Bool) (hb : oIn false (.str (tagS t)) (.lst bs) = .ok (.bl b)) (q : Q (.str (wrap (b = true) (wr t)))) : (fn_law_part (fn_law_write n) [tmD t, .lst bs]).wpX Q Z := by
  have hm := most60 ok h60
  obtain ⟨l1, l2, _⟩ := lit1
  unfold fn_law_part bd_law_part
  rw [wp_fn0, show initR 2 [tmD t, .lst bs] = [.fro (tmD t), .fro (.lst bs)] from rfl]
  try simp only [wpS_seq, wpS_next, wpS_if, wpS_ite, wpS_thn, wpS_ret, wpS_retO, wpS_drop, wpS_bad, wpS_nx, wpS_rt, wpS_sbad, wpS_ofO, wpS_frz', wpR_ok, wpR_bad, wpR_bind, wpR_ite, wpO_ok, wpO_bad, wpO_ite, wpO_toR, wpO_toR', wpO_toRO, wpX_ok, wpX_exc, wpX_bad, wpX_ite, wpX_ofD, wpX_noExc, wpO_ofD, wp_toRO1, wpR_noExc,
 sAsg, sAsgO, sOwnSet, sPar, putFro_if, putOwn_if, sto_no, sto_fro, sto_own, frz, dVar, dC, dOp, dUn, dLs, aNil, aCons, dB, asB, dAnd, dOr, dNot, dAndV, dOrV, dNotV, dIfE, dTru, ofB, dFr, dMove, dTup, dLsO, opLst, dSl, pNone, pSome, asI, dOwnIx, ownL, dOwnLen, dOwnSl, dAppend, dPop, dCall0, dCall1, DL.call1, dMeth0, isC, wp_make, List.append_nil, dFld, oFldN, dOwnFld, sOwnFld, sf_00, sf_11, sf_22, sf_33, sf_0, sf_1, sf_2, sf_3, ownI, dCatO, iLst, asL, iRg, asRg, iRg3, asRg3, sFor, sWhile, dComp, wipeR,
 i_add, i_op0, i_op, i_eq, i_ne, s_eq, s_ne, s_add, l_ix, t_ix, l_add, l_cat, i_int, b_int, i_abs, l_len, t_len, r_len, s_len, i_str, i_max, i_min, oNeg, atI_0, atI_1, atI_2, atI_3, atI_m1, ixNL_0, ixNL_1, ixNL_2, ixNL_3,
 get_0, get_1, get_2, get_3, get_4, get_5, get_6, get_7, get_8, get_9, set_0, set_1, set_2, set_3, set_4, set_5, set_6, set_7, set_8, set_9, isT_tup, isT_str, isT_int, isT_bool, isT_lst, isC_ok, Bool.not_true, Bool.not_false, ln_0, ln_1, ln_2, ln_3, ln_4, lm_0, lm_1, lm_2, lm_3, lm_4, lm_5, lm_6, Option.bind_some, Option.bind_none, true_and, and_true, eq_self, ioIs, ite_and, if_true, if_false, ite_true, ite_false, reduceIte, Bool.false_eq_true, reduceCtorEq, decide_eq_true_eq, cdec_eq, cdec_ne, beq_iff_eq, Bool.not_eq_true', t0, hb]
  unfold wrap at q
  by_cases c : b = true
  · rw [if_pos c] at q ⊢
    refine ih ?_
    try simp only [wpS_seq, wpS_next, wpS_if, wpS_ite, wpS_thn, wpS_ret, wpS_retO, wpS_drop, wpS_bad, wpS_nx, wpS_rt, wpS_sbad, wpS_ofO, wpS_frz', wpR_ok, wpR_bad, wpR_bind, wpR_ite, wpO_ok, wpO_bad, wpO_ite, wpO_toR, wpO_toR', wpO_toRO, wpX_ok, wpX_exc, wpX_bad, wpX_ite, wpX_ofD, wpX_noExc, wpO_ofD, wp_toRO1, wpR_noExc,
 sAsg, sAsgO, sOwnSet, sPar, putFro_if, putOwn_if, sto_no, sto_fro, sto_own, frz, dVar, dC, dOp, dUn, dLs, aNil, aCons, dB, asB, dAnd, dOr, dNot, dAndV, dOrV, dNotV, dIfE, dTru, ofB, dFr, dMove, dTup, dLsO, opLst, dSl, pNone, pSome, asI, dOwnIx, ownL, dOwnLen, dOwnSl, dAppend, dPop, dCall0, dCall1, DL.call1, dMeth0, isC, wp_make, List.append_nil, dFld, oFldN, dOwnFld, sOwnFld, sf_00, sf_11, sf_22, sf_33, sf_0, sf_1, sf_2, sf_3, ownI, dCatO, iLst, asL, iRg, asRg, iRg3, asRg3, sFor, sWhile, dComp, wipeR,
 i_add, i_op0, i_op, i_eq, i_ne, s_eq, s_ne, s_add, l_ix, t_ix, l_add, l_cat, i_int, b_int, i_abs, l_len, t_len, r_len, s_len, i_str, i_max, i_min, oNeg, atI_0, atI_1, atI_2, atI_3, atI_m1, ixNL_0, ixNL_1, ixNL_2, ixNL_3,
 get_0, get_1, get_2, get_3, get_4, get_5, get_6, get_7, get_8, get_9, set_0, set_1, set_2, set_3, set_4, set_5, set_6, set_7, set_8, set_9, isT_tup, isT_str, isT_int, isT_bool, isT_lst, isC_ok, Bool.not_true, Bool.not_false, ln_0, ln_1, ln_2, ln_3, ln_4, lm_0, lm_1, lm_2, lm_3, lm_4, lm_5, lm_6, Option.bind_some, Option.bind_none, true_and, and_true, eq_self, ioIs, ite_and, if_true, if_false, ite_true, ite_false, reduceIte, Bool.false_eq_true, reduceCtorEq, decide_eq_true_eq, cdec_eq, cdec_ne, beq_iff_eq, Bool.not_eq_true']
    exact ⟨len_le (by rw [l1]; omega), len_le (by rw [sapp, l1, l2]; omega), q⟩
  · rw [if_neg c] at q ⊢
    exact ih q
theorem lwrite_wp : ∀ {t : Tm} {n : Nat} {Q : D → Prop} {Z : Nat → D → Prop}, TmOk t → wt t ≤ n → wt t ≤ 60 → Q (.str (wr t)) → (fn_law_write n [tmD t]).wpX Q Z
  | t, 0, _, _, _, h, _, _ => by have := wt_two t; omega
  | t, n + 1, Q, Z, ok, h, h60, q => by
    obtain ⟨l1, l2, l3, l4, l5, l6⟩ := lit1
    unfold fn_law_write bd_law_write
    rw [wp_fn0, show initR 1 [tmD t] = [.fro (tmD t)] from rfl]
    cases t with
    | «let» c =>
      unfold tmD
      try simp only [wpS_seq, wpS_next, wpS_if, wpS_ite, wpS_thn, wpS_ret, wpS_retO, wpS_drop, wpS_bad, wpS_nx, wpS_rt, wpS_sbad, wpS_ofO, wpS_frz', wpR_ok, wpR_bad, wpR_bind, wpR_ite, wpO_ok, wpO_bad, wpO_ite, wpO_toR, wpO_toR', wpO_toRO, wpX_ok, wpX_exc, wpX_bad, wpX_ite, wpX_ofD, wpX_noExc, wpO_ofD, wp_toRO1, wpR_noExc,
 sAsg, sAsgO, sOwnSet, sPar, putFro_if, putOwn_if, sto_no, sto_fro, sto_own, frz, dVar, dC, dOp, dUn, dLs, aNil, aCons, dB, asB, dAnd, dOr, dNot, dAndV, dOrV, dNotV, dIfE, dTru, ofB, dFr, dMove, dTup, dLsO, opLst, dSl, pNone, pSome, asI, dOwnIx, ownL, dOwnLen, dOwnSl, dAppend, dPop, dCall0, dCall1, DL.call1, dMeth0, isC, wp_make, List.append_nil, dFld, oFldN, dOwnFld, sOwnFld, sf_00, sf_11, sf_22, sf_33, sf_0, sf_1, sf_2, sf_3, ownI, dCatO, iLst, asL, iRg, asRg, iRg3, asRg3, sFor, sWhile, dComp, wipeR,
 i_add, i_op0, i_op, i_eq, i_ne, s_eq, s_ne, s_add, l_ix, t_ix, l_add, l_cat, i_int, b_int, i_abs, l_len, t_len, r_len, s_len, i_str, i_max, i_min, oNeg, atI_0, atI_1, atI_2, atI_3, atI_m1, ixNL_0, ixNL_1, ixNL_2, ixNL_3,
 get_0, get_1, get_2, get_3, get_4, get_5, get_6, get_7, get_8, get_9, set_0, set_1, set_2, set_3, set_4, set_5, set_6, set_7, set_8, set_9, isT_tup, isT_str, isT_int, isT_bool, isT_lst, isC_ok, Bool.not_true, Bool.not_false, ln_0, ln_1, ln_2, ln_3, ln_4, lm_0, lm_1, lm_2, lm_3, lm_4, lm_5, lm_6, Option.bind_some, Option.bind_none, true_and, and_true, eq_self, ioIs, ite_and, if_true, if_false, ite_true, ite_false, reduceIte, Bool.false_eq_true, reduceCtorEq, decide_eq_true_eq, cdec_eq, cdec_ne, beq_iff_eq, Bool.not_eq_true', tg_number_letter, tg_number_plus, tg_number_row, tg_number_star, tg_letter_number, tg_letter_plus, tg_letter_row, tg_letter_star, tg_plus_number, tg_plus_letter, tg_plus_row, tg_plus_star, tg_row_number, tg_row_letter, tg_row_plus, tg_row_star, tg_star_number, tg_star_letter, tg_star_plus, tg_star_row]
      exact q
    | num a b =>
      unfold tmD
      try simp only [wpS_seq, wpS_next, wpS_if, wpS_ite, wpS_thn, wpS_ret, wpS_retO, wpS_drop, wpS_bad, wpS_nx, wpS_rt, wpS_sbad, wpS_ofO, wpS_frz', wpR_ok, wpR_bad, wpR_bind, wpR_ite, wpO_ok, wpO_bad, wpO_ite, wpO_toR, wpO_toR', wpO_toRO, wpX_ok, wpX_exc, wpX_bad, wpX_ite, wpX_ofD, wpX_noExc, wpO_ofD, wp_toRO1, wpR_noExc,
 sAsg, sAsgO, sOwnSet, sPar, putFro_if, putOwn_if, sto_no, sto_fro, sto_own, frz, dVar, dC, dOp, dUn, dLs, aNil, aCons, dB, asB, dAnd, dOr, dNot, dAndV, dOrV, dNotV, dIfE, dTru, ofB, dFr, dMove, dTup, dLsO, opLst, dSl, pNone, pSome, asI, dOwnIx, ownL, dOwnLen, dOwnSl, dAppend, dPop, dCall0, dCall1, DL.call1, dMeth0, isC, wp_make, List.append_nil, dFld, oFldN, dOwnFld, sOwnFld, sf_00, sf_11, sf_22, sf_33, sf_0, sf_1, sf_2, sf_3, ownI, dCatO, iLst, asL, iRg, asRg, iRg3, asRg3, sFor, sWhile, dComp, wipeR,
 i_add, i_op0, i_op, i_eq, i_ne, s_eq, s_ne, s_add, l_ix, t_ix, l_add, l_cat, i_int, b_int, i_abs, l_len, t_len, r_len, s_len, i_str, i_max, i_min, oNeg, atI_0, atI_1, atI_2, atI_3, atI_m1, ixNL_0, ixNL_1, ixNL_2, ixNL_3,
 get_0, get_1, get_2, get_3, get_4, get_5, get_6, get_7, get_8, get_9, set_0, set_1, set_2, set_3, set_4, set_5, set_6, set_7, set_8, set_9, isT_tup, isT_str, isT_int, isT_bool, isT_lst, isC_ok, Bool.not_true, Bool.not_false, ln_0, ln_1, ln_2, ln_3, ln_4, lm_0, lm_1, lm_2, lm_3, lm_4, lm_5, lm_6, Option.bind_some, Option.bind_none, true_and, and_true, eq_self, ioIs, ite_and, if_true, if_false, ite_true, ite_false, reduceIte, Bool.false_eq_true, reduceCtorEq, decide_eq_true_eq, cdec_eq, cdec_ne, beq_iff_eq, Bool.not_eq_true', tg_number_letter, tg_number_plus, tg_number_row, tg_number_star, tg_letter_number, tg_letter_plus, tg_letter_row, tg_letter_star, tg_plus_number, tg_plus_letter, tg_plus_row, tg_plus_star, tg_row_number, tg_row_letter, tg_row_plus, tg_row_star, tg_star_number, tg_star_letter, tg_star_plus, tg_star_row]
      exact text_wp ok.2.2.1 ok.2.2.2 q
    | star t =>
      have h : wt t + 1 ≤ n + 1 := h
      have h60 : wt t + 1 ≤ 60 := h60
      have hm := most60 (t := t) ok (by omega)
      unfold tmD
      try simp only [wpS_seq, wpS_next, wpS_if, wpS_ite, wpS_thn, wpS_ret, wpS_retO, wpS_drop, wpS_bad, wpS_nx, wpS_rt, wpS_sbad, wpS_ofO, wpS_frz', wpR_ok, wpR_bad, wpR_bind, wpR_ite, wpO_ok, wpO_bad, wpO_ite, wpO_toR, wpO_toR', wpO_toRO, wpX_ok, wpX_exc, wpX_bad, wpX_ite, wpX_ofD, wpX_noExc, wpO_ofD, wp_toRO1, wpR_noExc,
 sAsg, sAsgO, sOwnSet, sPar, putFro_if, putOwn_if, sto_no, sto_fro, sto_own, frz, dVar, dC, dOp, dUn, dLs, aNil, aCons, dB, asB, dAnd, dOr, dNot, dAndV, dOrV, dNotV, dIfE, dTru, ofB, dFr, dMove, dTup, dLsO, opLst, dSl, pNone, pSome, asI, dOwnIx, ownL, dOwnLen, dOwnSl, dAppend, dPop, dCall0, dCall1, DL.call1, dMeth0, isC, wp_make, List.append_nil, dFld, oFldN, dOwnFld, sOwnFld, sf_00, sf_11, sf_22, sf_33, sf_0, sf_1, sf_2, sf_3, ownI, dCatO, iLst, asL, iRg, asRg, iRg3, asRg3, sFor, sWhile, dComp, wipeR,
 i_add, i_op0, i_op, i_eq, i_ne, s_eq, s_ne, s_add, l_ix, t_ix, l_add, l_cat, i_int, b_int, i_abs, l_len, t_len, r_len, s_len, i_str, i_max, i_min, oNeg, atI_0, atI_1, atI_2, atI_3, atI_m1, ixNL_0, ixNL_1, ixNL_2, ixNL_3,
 get_0, get_1, get_2, get_3, get_4, get_5, get_6, get_7, get_8, get_9, set_0, set_1, set_2, set_3, set_4, set_5, set_6, set_7, set_8, set_9, isT_tup, isT_str, isT_int, isT_bool, isT_lst, isC_ok, Bool.not_true, Bool.not_false, ln_0, ln_1, ln_2, ln_3, ln_4, lm_0, lm_1, lm_2, lm_3, lm_4, lm_5, lm_6, Option.bind_some, Option.bind_none, true_and, and_true, eq_self, ioIs, ite_and, if_true, if_false, ite_true, ite_false, reduceIte, Bool.false_eq_true, reduceCtorEq, decide_eq_true_eq, cdec_eq, cdec_ne, beq_iff_eq, Bool.not_eq_true', tg_number_letter, tg_number_plus, tg_number_row, tg_number_star, tg_letter_number, tg_letter_plus, tg_letter_row, tg_letter_star, tg_plus_number, tg_plus_letter, tg_plus_row, tg_plus_star, tg_row_number, tg_row_letter, tg_row_plus, tg_row_star, tg_star_number, tg_star_letter, tg_star_plus, tg_star_row]
      refine lpart_wp (t := t) ok (by omega) (fun q => lwrite_wp (t := t) ok (by omega) (by omega) q) _ _ (in_both t) ?_
      have hw := wrap_len ((isP t || isR t) = true) (wr t)
      try simp only [wpS_seq, wpS_next, wpS_if, wpS_ite, wpS_thn, wpS_ret, wpS_retO, wpS_drop, wpS_bad, wpS_nx, wpS_rt, wpS_sbad, wpS_ofO, wpS_frz', wpR_ok, wpR_bad, wpR_bind, wpR_ite, wpO_ok, wpO_bad, wpO_ite, wpO_toR, wpO_toR', wpO_toRO, wpX_ok, wpX_exc, wpX_bad, wpX_ite, wpX_ofD, wpX_noExc, wpO_ofD, wp_toRO1, wpR_noExc,
 sAsg, sAsgO, sOwnSet, sPar, putFro_if, putOwn_if, sto_no, sto_fro, sto_own, frz, dVar, dC, dOp, dUn, dLs, aNil, aCons, dB, asB, dAnd, dOr, dNot, dAndV, dOrV, dNotV, dIfE, dTru, ofB, dFr, dMove, dTup, dLsO, opLst, dSl, pNone, pSome, asI, dOwnIx, ownL, dOwnLen, dOwnSl, dAppend, dPop, dCall0, dCall1, DL.call1, dMeth0, isC, wp_make, List.append_nil, dFld, oFldN, dOwnFld, sOwnFld, sf_00, sf_11, sf_22, sf_33, sf_0, sf_1, sf_2, sf_3, ownI, dCatO, iLst, asL, iRg, asRg, iRg3, asRg3, sFor, sWhile, dComp, wipeR,
 i_add, i_op0, i_op, i_eq, i_ne, s_eq, s_ne, s_add, l_ix, t_ix, l_add, l_cat, i_int, b_int, i_abs, l_len, t_len, r_len, s_len, i_str, i_max, i_min, oNeg, atI_0, atI_1, atI_2, atI_3, atI_m1, ixNL_0, ixNL_1, ixNL_2, ixNL_3,
 get_0, get_1, get_2, get_3, get_4, get_5, get_6, get_7, get_8, get_9, set_0, set_1, set_2, set_3, set_4, set_5, set_6, set_7, set_8, set_9, isT_tup, isT_str, isT_int, isT_bool, isT_lst, isC_ok, Bool.not_true, Bool.not_false, ln_0, ln_1, ln_2, ln_3, ln_4, lm_0, lm_1, lm_2, lm_3, lm_4, lm_5, lm_6, Option.bind_some, Option.bind_none, true_and, and_true, eq_self, ioIs, ite_and, if_true, if_false, ite_true, ite_false, reduceIte, Bool.false_eq_true, reduceCtorEq, decide_eq_true_eq, cdec_eq, cdec_ne, beq_iff_eq, Bool.not_eq_true']
      refine ⟨len_le (by rw [l3]; omega), ?_⟩
      rw [wrap_if (Bool.or_eq_true (isP t) (isR t))]
      exact q
    | plus s t =>
      have h : wt s + wt t ≤ n + 1 := h
      have h60 : wt s + wt t ≤ 60 := h60
      have := wt_two s
      have := wt_two t
      have hm := most60 ok.1 (by omega)
      have hm' := most60 ok.2 (by omega)
      unfold tmD
      try simp only [wpS_seq, wpS_next, wpS_if, wpS_ite, wpS_thn, wpS_ret, wpS_retO, wpS_drop, wpS_bad, wpS_nx, wpS_rt, wpS_sbad, wpS_ofO, wpS_frz', wpR_ok, wpR_bad, wpR_bind, wpR_ite, wpO_ok, wpO_bad, wpO_ite, wpO_toR, wpO_toR', wpO_toRO, wpX_ok, wpX_exc, wpX_bad, wpX_ite, wpX_ofD, wpX_noExc, wpO_ofD, wp_toRO1, wpR_noExc,
 sAsg, sAsgO, sOwnSet, sPar, putFro_if, putOwn_if, sto_no, sto_fro, sto_own, frz, dVar, dC, dOp, dUn, dLs, aNil, aCons, dB, asB, dAnd, dOr, dNot, dAndV, dOrV, dNotV, dIfE, dTru, ofB, dFr, dMove, dTup, dLsO, opLst, dSl, pNone, pSome, asI, dOwnIx, ownL, dOwnLen, dOwnSl, dAppend, dPop, dCall0, dCall1, DL.call1, dMeth0, isC, wp_make, List.append_nil, dFld, oFldN, dOwnFld, sOwnFld, sf_00, sf_11, sf_22, sf_33, sf_0, sf_1, sf_2, sf_3, ownI, dCatO, iLst, asL, iRg, asRg, iRg3, asRg3, sFor, sWhile, dComp, wipeR,
 i_add, i_op0, i_op, i_eq, i_ne, s_eq, s_ne, s_add, l_ix, t_ix, l_add, l_cat, i_int, b_int, i_abs, l_len, t_len, r_len, s_len, i_str, i_max, i_min, oNeg, atI_0, atI_1, atI_2, atI_3, atI_m1, ixNL_0, ixNL_1, ixNL_2, ixNL_3,
 get_0, get_1, get_2, get_3, get_4, get_5, get_6, get_7, get_8, get_9, set_0, set_1, set_2, set_3, set_4, set_5, set_6, set_7, set_8, set_9, isT_tup, isT_str, isT_int, isT_bool, isT_lst, isC_ok, Bool.not_true, Bool.not_false, ln_0, ln_1, ln_2, ln_3, ln_4, lm_0, lm_1, lm_2, lm_3, lm_4, lm_5, lm_6, Option.bind_some, Option.bind_none, true_and, and_true, eq_self, ioIs, ite_and, if_true, if_false, ite_true, ite_false, reduceIte, Bool.false_eq_true, reduceCtorEq, decide_eq_true_eq, cdec_eq, cdec_ne, beq_iff_eq, Bool.not_eq_true', tg_number_letter, tg_number_plus, tg_number_row, tg_number_star, tg_letter_number, tg_letter_plus, tg_letter_row, tg_letter_star, tg_plus_number, tg_plus_letter, tg_plus_row, tg_plus_star, tg_row_number, tg_row_letter, tg_row_plus, tg_row_star, tg_star_number, tg_star_letter, tg_star_plus, tg_star_row]
      refine lwrite_wp (t := s) ok.1 (by omega) (by omega) ?_
      try simp only [wpS_seq, wpS_next, wpS_if, wpS_ite, wpS_thn, wpS_ret, wpS_retO, wpS_drop, wpS_bad, wpS_nx, wpS_rt, wpS_sbad, wpS_ofO, wpS_frz', wpR_ok, wpR_bad, wpR_bind, wpR_ite, wpO_ok, wpO_bad, wpO_ite, wpO_toR, wpO_toR', wpO_toRO, wpX_ok, wpX_exc, wpX_bad, wpX_ite, wpX_ofD, wpX_noExc, wpO_ofD, wp_toRO1, wpR_noExc,
 sAsg, sAsgO, sOwnSet, sPar, putFro_if, putOwn_if, sto_no, sto_fro, sto_own, frz, dVar, dC, dOp, dUn, dLs, aNil, aCons, dB, asB, dAnd, dOr, dNot, dAndV, dOrV, dNotV, dIfE, dTru, ofB, dFr, dMove, dTup, dLsO, opLst, dSl, pNone, pSome, asI, dOwnIx, ownL, dOwnLen, dOwnSl, dAppend, dPop, dCall0, dCall1, DL.call1, dMeth0, isC, wp_make, List.append_nil, dFld, oFldN, dOwnFld, sOwnFld, sf_00, sf_11, sf_22, sf_33, sf_0, sf_1, sf_2, sf_3, ownI, dCatO, iLst, asL, iRg, asRg, iRg3, asRg3, sFor, sWhile, dComp, wipeR,
 i_add, i_op0, i_op, i_eq, i_ne, s_eq, s_ne, s_add, l_ix, t_ix, l_add, l_cat, i_int, b_int, i_abs, l_len, t_len, r_len, s_len, i_str, i_max, i_min, oNeg, atI_0, atI_1, atI_2, atI_3, atI_m1, ixNL_0, ixNL_1, ixNL_2, ixNL_3,
 get_0, get_1, get_2, get_3, get_4, get_5, get_6, get_7, get_8, get_9, set_0, set_1, set_2, set_3, set_4, set_5, set_6, set_7, set_8, set_9, isT_tup, isT_str, isT_int, isT_bool, isT_lst, isC_ok, Bool.not_true, Bool.not_false, ln_0, ln_1, ln_2, ln_3, ln_4, lm_0, lm_1, lm_2, lm_3, lm_4, lm_5, lm_6, Option.bind_some, Option.bind_none, true_and, and_true, eq_self, ioIs, ite_and, if_true, if_false, ite_true, ite_false, reduceIte, Bool.false_eq_true, reduceCtorEq, decide_eq_true_eq, cdec_eq, cdec_ne, beq_iff_eq, Bool.not_eq_true']
      refine ⟨len_le (by rw [l4]; omega), ?_⟩
      refine lpart_wp ok.2 (by omega) (fun q => lwrite_wp (t := t) ok.2 (by omega) (by omega) q) _ _ (in_plus t) ?_
      have hw := wrap_len (isP t = true) (wr t)
      try simp only [wpS_seq, wpS_next, wpS_if, wpS_ite, wpS_thn, wpS_ret, wpS_retO, wpS_drop, wpS_bad, wpS_nx, wpS_rt, wpS_sbad, wpS_ofO, wpS_frz', wpR_ok, wpR_bad, wpR_bind, wpR_ite, wpO_ok, wpO_bad, wpO_ite, wpO_toR, wpO_toR', wpO_toRO, wpX_ok, wpX_exc, wpX_bad, wpX_ite, wpX_ofD, wpX_noExc, wpO_ofD, wp_toRO1, wpR_noExc,
 sAsg, sAsgO, sOwnSet, sPar, putFro_if, putOwn_if, sto_no, sto_fro, sto_own, frz, dVar, dC, dOp, dUn, dLs, aNil, aCons, dB, asB, dAnd, dOr, dNot, dAndV, dOrV, dNotV, dIfE, dTru, ofB, dFr, dMove, dTup, dLsO, opLst, dSl, pNone, pSome, asI, dOwnIx, ownL, dOwnLen, dOwnSl, dAppend, dPop, dCall0, dCall1, DL.call1, dMeth0, isC, wp_make, List.append_nil, dFld, oFldN, dOwnFld, sOwnFld, sf_00, sf_11, sf_22, sf_33, sf_0, sf_1, sf_2, sf_3, ownI, dCatO, iLst, asL, iRg, asRg, iRg3, asRg3, sFor, sWhile, dComp, wipeR,
 i_add, i_op0, i_op, i_eq, i_ne, s_eq, s_ne, s_add, l_ix, t_ix, l_add, l_cat, i_int, b_int, i_abs, l_len, t_len, r_len, s_len, i_str, i_max, i_min, oNeg, atI_0, atI_1, atI_2, atI_3, atI_m1, ixNL_0, ixNL_1, ixNL_2, ixNL_3,
 get_0, get_1, get_2, get_3, get_4, get_5, get_6, get_7, get_8, get_9, set_0, set_1, set_2, set_3, set_4, set_5, set_6, set_7, set_8, set_9, isT_tup, isT_str, isT_int, isT_bool, isT_lst, isC_ok, Bool.not_true, Bool.not_false, ln_0, ln_1, ln_2, ln_3, ln_4, lm_0, lm_1, lm_2, lm_3, lm_4, lm_5, lm_6, Option.bind_some, Option.bind_none, true_and, and_true, eq_self, ioIs, ite_and, if_true, if_false, ite_true, ite_false, reduceIte, Bool.false_eq_true, reduceCtorEq, decide_eq_true_eq, cdec_eq, cdec_ne, beq_iff_eq, Bool.not_eq_true']
      exact ⟨len_le (by rw [sapp, l4]; omega), q⟩
    | row s t =>
      have h : wt s + wt t ≤ n + 1 := h
      have h60 : wt s + wt t ≤ 60 := h60
      have := wt_two s
      have := wt_two t
      have hm := most60 ok.1 (by omega)
      have hm' := most60 ok.2 (by omega)
      unfold tmD
      try simp only [wpS_seq, wpS_next, wpS_if, wpS_ite, wpS_thn, wpS_ret, wpS_retO, wpS_drop, wpS_bad, wpS_nx, wpS_rt, wpS_sbad, wpS_ofO, wpS_frz', wpR_ok, wpR_bad, wpR_bind, wpR_ite, wpO_ok, wpO_bad, wpO_ite, wpO_toR, wpO_toR', wpO_toRO, wpX_ok, wpX_exc, wpX_bad, wpX_ite, wpX_ofD, wpX_noExc, wpO_ofD, wp_toRO1, wpR_noExc,
 sAsg, sAsgO, sOwnSet, sPar, putFro_if, putOwn_if, sto_no, sto_fro, sto_own, frz, dVar, dC, dOp, dUn, dLs, aNil, aCons, dB, asB, dAnd, dOr, dNot, dAndV, dOrV, dNotV, dIfE, dTru, ofB, dFr, dMove, dTup, dLsO, opLst, dSl, pNone, pSome, asI, dOwnIx, ownL, dOwnLen, dOwnSl, dAppend, dPop, dCall0, dCall1, DL.call1, dMeth0, isC, wp_make, List.append_nil, dFld, oFldN, dOwnFld, sOwnFld, sf_00, sf_11, sf_22, sf_33, sf_0, sf_1, sf_2, sf_3, ownI, dCatO, iLst, asL, iRg, asRg, iRg3, asRg3, sFor, sWhile, dComp, wipeR,
 i_add, i_op0, i_op, i_eq, i_ne, s_eq, s_ne, s_add, l_ix, t_ix, l_add, l_cat, i_int, b_int, i_abs, l_len, t_len, r_len, s_len, i_str, i_max, i_min, oNeg, atI_0, atI_1, atI_2, atI_3, atI_m1, ixNL_0, ixNL_1, ixNL_2, ixNL_3,
 get_0, get_1, get_2, get_3, get_4, get_5, get_6, get_7, get_8, get_9, set_0, set_1, set_2, set_3, set_4, set_5, set_6, set_7, set_8, set_9, isT_tup, isT_str, isT_int, isT_bool, isT_lst, isC_ok, Bool.not_true, Bool.not_false, ln_0, ln_1, ln_2, ln_3, ln_4, lm_0, lm_1, lm_2, lm_3, lm_4, lm_5, lm_6, Option.bind_some, Option.bind_none, true_and, and_true, eq_self, ioIs, ite_and, if_true, if_false, ite_true, ite_false, reduceIte, Bool.false_eq_true, reduceCtorEq, decide_eq_true_eq, cdec_eq, cdec_ne, beq_iff_eq, Bool.not_eq_true', tg_number_letter, tg_number_plus, tg_number_row, tg_number_star, tg_letter_number, tg_letter_plus, tg_letter_row, tg_letter_star, tg_plus_number, tg_plus_letter, tg_plus_row, tg_plus_star, tg_row_number, tg_row_letter, tg_row_plus, tg_row_star, tg_star_number, tg_star_letter, tg_star_plus, tg_star_row]
      refine lpart_wp ok.1 (by omega) (fun q => lwrite_wp (t := s) ok.1 (by omega) (by omega) q) _ _ (in_plus s) ?_
      have hw := wrap_len (isP s = true) (wr s)
      try simp only [wpS_seq, wpS_next, wpS_if, wpS_ite, wpS_thn, wpS_ret, wpS_retO, wpS_drop, wpS_bad, wpS_nx, wpS_rt, wpS_sbad, wpS_ofO, wpS_frz', wpR_ok, wpR_bad, wpR_bind, wpR_ite, wpO_ok, wpO_bad, wpO_ite, wpO_toR, wpO_toR', wpO_toRO, wpX_ok, wpX_exc, wpX_bad, wpX_ite, wpX_ofD, wpX_noExc, wpO_ofD, wp_toRO1, wpR_noExc,
 sAsg, sAsgO, sOwnSet, sPar, putFro_if, putOwn_if, sto_no, sto_fro, sto_own, frz, dVar, dC, dOp, dUn, dLs, aNil, aCons, dB, asB, dAnd, dOr, dNot, dAndV, dOrV, dNotV, dIfE, dTru, ofB, dFr, dMove, dTup, dLsO, opLst, dSl, pNone, pSome, asI, dOwnIx, ownL, dOwnLen, dOwnSl, dAppend, dPop, dCall0, dCall1, DL.call1, dMeth0, isC, wp_make, List.append_nil, dFld, oFldN, dOwnFld, sOwnFld, sf_00, sf_11, sf_22, sf_33, sf_0, sf_1, sf_2, sf_3, ownI, dCatO, iLst, asL, iRg, asRg, iRg3, asRg3, sFor, sWhile, dComp, wipeR,
 i_add, i_op0, i_op, i_eq, i_ne, s_eq, s_ne, s_add, l_ix, t_ix, l_add, l_cat, i_int, b_int, i_abs, l_len, t_len, r_len, s_len, i_str, i_max, i_min, oNeg, atI_0, atI_1, atI_2, atI_3, atI_m1, ixNL_0, ixNL_1, ixNL_2, ixNL_3,
 get_0, get_1, get_2, get_3, get_4, get_5, get_6, get_7, get_8, get_9, set_0, set_1, set_2, set_3, set_4, set_5, set_6, set_7, set_8, set_9, isT_tup, isT_str, isT_int, isT_bool, isT_lst, isC_ok, Bool.not_true, Bool.not_false, ln_0, ln_1, ln_2, ln_3, ln_4, lm_0, lm_1, lm_2, lm_3, lm_4, lm_5, lm_6, Option.bind_some, Option.bind_none, true_and, and_true, eq_self, ioIs, ite_and, if_true, if_false, ite_true, ite_false, reduceIte, Bool.false_eq_true, reduceCtorEq, decide_eq_true_eq, cdec_eq, cdec_ne, beq_iff_eq, Bool.not_eq_true']
      refine ⟨len_le (by rw [l5]; omega), ?_⟩
      refine lpart_wp ok.2 (by omega) (fun q => lwrite_wp (t := t) ok.2 (by omega) (by omega) q) _ _ (in_both t) ?_
      have hw := wrap_len ((isP t || isR t) = true) (wr t)
      try simp only [wpS_seq, wpS_next, wpS_if, wpS_ite, wpS_thn, wpS_ret, wpS_retO, wpS_drop, wpS_bad, wpS_nx, wpS_rt, wpS_sbad, wpS_ofO, wpS_frz', wpR_ok, wpR_bad, wpR_bind, wpR_ite, wpO_ok, wpO_bad, wpO_ite, wpO_toR, wpO_toR', wpO_toRO, wpX_ok, wpX_exc, wpX_bad, wpX_ite, wpX_ofD, wpX_noExc, wpO_ofD, wp_toRO1, wpR_noExc,
 sAsg, sAsgO, sOwnSet, sPar, putFro_if, putOwn_if, sto_no, sto_fro, sto_own, frz, dVar, dC, dOp, dUn, dLs, aNil, aCons, dB, asB, dAnd, dOr, dNot, dAndV, dOrV, dNotV, dIfE, dTru, ofB, dFr, dMove, dTup, dLsO, opLst, dSl, pNone, pSome, asI, dOwnIx, ownL, dOwnLen, dOwnSl, dAppend, dPop, dCall0, dCall1, DL.call1, dMeth0, isC, wp_make, List.append_nil, dFld, oFldN, dOwnFld, sOwnFld, sf_00, sf_11, sf_22, sf_33, sf_0, sf_1, sf_2, sf_3, ownI, dCatO, iLst, asL, iRg, asRg, iRg3, asRg3, sFor, sWhile, dComp, wipeR,
 i_add, i_op0, i_op, i_eq, i_ne, s_eq, s_ne, s_add, l_ix, t_ix, l_add, l_cat, i_int, b_int, i_abs, l_len, t_len, r_len, s_len, i_str, i_max, i_min, oNeg, atI_0, atI_1, atI_2, atI_3, atI_m1, ixNL_0, ixNL_1, ixNL_2, ixNL_3,
 get_0, get_1, get_2, get_3, get_4, get_5, get_6, get_7, get_8, get_9, set_0, set_1, set_2, set_3, set_4, set_5, set_6, set_7, set_8, set_9, isT_tup, isT_str, isT_int, isT_bool, isT_lst, isC_ok, Bool.not_true, Bool.not_false, ln_0, ln_1, ln_2, ln_3, ln_4, lm_0, lm_1, lm_2, lm_3, lm_4, lm_5, lm_6, Option.bind_some, Option.bind_none, true_and, and_true, eq_self, ioIs, ite_and, if_true, if_false, ite_true, ite_false, reduceIte, Bool.false_eq_true, reduceCtorEq, decide_eq_true_eq, cdec_eq, cdec_ne, beq_iff_eq, Bool.not_eq_true']
      refine ⟨len_le (by rw [sapp, l5]; omega), ?_⟩
      rw [wrap_if (Bool.or_eq_true (isP t) (isR t))]
      exact q
theorem wpart_wp {t : Tm} {n : Nat} {Q : D → Prop} {Z : Nat → D → Prop} (ok : TmOk t) (h60 : wt t ≤ 60) (ih : ∀ {Q : D → Prop} {Z : Nat → D → Prop}, Q (.str (wr t)) → (fn_write_sum n [mdD t]).wpX Q Z) (k : Int) (q : Q (.str (wrap (lvS t < k) (wr t)))) : (fn_write_part (fn_write_sum n) [mdD t, .int k]).wpX Q Z := by
  have hm := most60 ok h60
  obtain ⟨l1, l2, _⟩ := lit1
  unfold fn_write_part bd_write_part
  rw [wp_fn0, show initR 3 [mdD t, .int k] = [.fro (mdD t), .fro (.int k), .no] from rfl]
  try simp only [wpS_seq, wpS_next, wpS_if, wpS_ite, wpS_thn, wpS_ret, wpS_retO, wpS_drop, wpS_bad, wpS_nx, wpS_rt, wpS_sbad, wpS_ofO, wpS_frz', wpR_ok, wpR_bad, wpR_bind, wpR_ite, wpO_ok, wpO_bad, wpO_ite, wpO_toR, wpO_toR', wpO_toRO, wpX_ok, wpX_exc, wpX_bad, wpX_ite, wpX_ofD, wpX_noExc, wpO_ofD, wp_toRO1, wpR_noExc,
 sAsg, sAsgO, sOwnSet, sPar, putFro_if, putOwn_if, sto_no, sto_fro, sto_own, frz, dVar, dC, dOp, dUn, dLs, aNil, aCons, dB, asB, dAnd, dOr, dNot, dAndV, dOrV, dNotV, dIfE, dTru, ofB, dFr, dMove, dTup, dLsO, opLst, dSl, pNone, pSome, asI, dOwnIx, ownL, dOwnLen, dOwnSl, dAppend, dPop, dCall0, dCall1, DL.call1, dMeth0, isC, wp_make, List.append_nil, dFld, oFldN, dOwnFld, sOwnFld, sf_00, sf_11, sf_22, sf_33, sf_0, sf_1, sf_2, sf_3, ownI, dCatO, iLst, asL, iRg, asRg, iRg3, asRg3, sFor, sWhile, dComp, wipeR,
 i_add, i_op0, i_op, i_eq, i_ne, s_eq, s_ne, s_add, l_ix, t_ix, l_add, l_cat, i_int, b_int, i_abs, l_len, t_len, r_len, s_len, i_str, i_max, i_min, oNeg, atI_0, atI_1, atI_2, atI_3, atI_m1, ixNL_0, ixNL_1, ixNL_2, ixNL_3,
 get_0, get_1, get_2, get_3, get_4, get_5, get_6, get_7, get_8, get_9, set_0, set_1, set_2, set_3, set_4, set_5, set_6, set_7, set_8, set_9, isT_tup, isT_str, isT_int, isT_bool, isT_lst, isC_ok, Bool.not_true, Bool.not_false, ln_0, ln_1, ln_2, ln_3, ln_4, lm_0, lm_1, lm_2, lm_3, lm_4, lm_5, lm_6, Option.bind_some, Option.bind_none, true_and, and_true, eq_self, ioIs, ite_and, if_true, if_false, ite_true, ite_false, reduceIte, Bool.false_eq_true, reduceCtorEq, decide_eq_true_eq, cdec_eq, cdec_ne, beq_iff_eq, Bool.not_eq_true']
  refine ih ?_
  try simp only [wpS_seq, wpS_next, wpS_if, wpS_ite, wpS_thn, wpS_ret, wpS_retO, wpS_drop, wpS_bad, wpS_nx, wpS_rt, wpS_sbad, wpS_ofO, wpS_frz', wpR_ok, wpR_bad, wpR_bind, wpR_ite, wpO_ok, wpO_bad, wpO_ite, wpO_toR, wpO_toR', wpO_toRO, wpX_ok, wpX_exc, wpX_bad, wpX_ite, wpX_ofD, wpX_noExc, wpO_ofD, wp_toRO1, wpR_noExc,
 sAsg, sAsgO, sOwnSet, sPar, putFro_if, putOwn_if, sto_no, sto_fro, sto_own, frz, dVar, dC, dOp, dUn, dLs, aNil, aCons, dB, asB, dAnd, dOr, dNot, dAndV, dOrV, dNotV, dIfE, dTru, ofB, dFr, dMove, dTup, dLsO, opLst, dSl, pNone, pSome, asI, dOwnIx, ownL, dOwnLen, dOwnSl, dAppend, dPop, dCall0, dCall1, DL.call1, dMeth0, isC, wp_make, List.append_nil, dFld, oFldN, dOwnFld, sOwnFld, sf_00, sf_11, sf_22, sf_33, sf_0, sf_1, sf_2, sf_3, ownI, dCatO, iLst, asL, iRg, asRg, iRg3, asRg3, sFor, sWhile, dComp, wipeR,
 i_add, i_op0, i_op, i_eq, i_ne, s_eq, s_ne, s_add, l_ix, t_ix, l_add, l_cat, i_int, b_int, i_abs, l_len, t_len, r_len, s_len, i_str, i_max, i_min, oNeg, atI_0, atI_1, atI_2, atI_3, atI_m1, ixNL_0, ixNL_1, ixNL_2, ixNL_3,
 get_0, get_1, get_2, get_3, get_4, get_5, get_6, get_7, get_8, get_9, set_0, set_1, set_2, set_3, set_4, set_5, set_6, set_7, set_8, set_9, isT_tup, isT_str, isT_int, isT_bool, isT_lst, isC_ok, Bool.not_true, Bool.not_false, ln_0, ln_1, ln_2, ln_3, ln_4, lm_0, lm_1, lm_2, lm_3, lm_4, lm_5, lm_6, Option.bind_some, Option.bind_none, true_and, and_true, eq_self, ioIs, ite_and, if_true, if_false, ite_true, ite_false, reduceIte, Bool.false_eq_true, reduceCtorEq, decide_eq_true_eq, cdec_eq, cdec_ne, beq_iff_eq, Bool.not_eq_true', m0, kd_lv]
  unfold wrap at q
  by_cases c : lvS t < k
  · rw [if_pos c] at q ⊢
    exact ⟨len_le (by rw [l1]; omega), len_le (by rw [sapp, l1, l2]; omega), q⟩
  · rw [if_neg c] at q ⊢
    exact q
theorem write_wp : ∀ {t : Tm} {n : Nat} {Q : D → Prop} {Z : Nat → D → Prop}, TmOk t → wt t ≤ n → wt t ≤ 60 → Q (.str (wr t)) → (fn_write_sum n [mdD t]).wpX Q Z
  | t, 0, _, _, _, h, _, _ => by have := wt_two t; omega
  | t, n + 1, Q, Z, ok, h, h60, q => by
    obtain ⟨l1, l2, l3, l4, l5, l6⟩ := lit1
    unfold fn_write_sum bd_write_sum
    rw [wp_fn0, show initR 1 [mdD t] = [.fro (mdD t)] from rfl]
    cases t with
    | «let» c =>
      unfold mdD
      try simp only [wpS_seq, wpS_next, wpS_if, wpS_ite, wpS_thn, wpS_ret, wpS_retO, wpS_drop, wpS_bad, wpS_nx, wpS_rt, wpS_sbad, wpS_ofO, wpS_frz', wpR_ok, wpR_bad, wpR_bind, wpR_ite, wpO_ok, wpO_bad, wpO_ite, wpO_toR, wpO_toR', wpO_toRO, wpX_ok, wpX_exc, wpX_bad, wpX_ite, wpX_ofD, wpX_noExc, wpO_ofD, wp_toRO1, wpR_noExc,
 sAsg, sAsgO, sOwnSet, sPar, putFro_if, putOwn_if, sto_no, sto_fro, sto_own, frz, dVar, dC, dOp, dUn, dLs, aNil, aCons, dB, asB, dAnd, dOr, dNot, dAndV, dOrV, dNotV, dIfE, dTru, ofB, dFr, dMove, dTup, dLsO, opLst, dSl, pNone, pSome, asI, dOwnIx, ownL, dOwnLen, dOwnSl, dAppend, dPop, dCall0, dCall1, DL.call1, dMeth0, isC, wp_make, List.append_nil, dFld, oFldN, dOwnFld, sOwnFld, sf_00, sf_11, sf_22, sf_33, sf_0, sf_1, sf_2, sf_3, ownI, dCatO, iLst, asL, iRg, asRg, iRg3, asRg3, sFor, sWhile, dComp, wipeR,
 i_add, i_op0, i_op, i_eq, i_ne, s_eq, s_ne, s_add, l_ix, t_ix, l_add, l_cat, i_int, b_int, i_abs, l_len, t_len, r_len, s_len, i_str, i_max, i_min, oNeg, atI_0, atI_1, atI_2, atI_3, atI_m1, ixNL_0, ixNL_1, ixNL_2, ixNL_3,
 get_0, get_1, get_2, get_3, get_4, get_5, get_6, get_7, get_8, get_9, set_0, set_1, set_2, set_3, set_4, set_5, set_6, set_7, set_8, set_9, isT_tup, isT_str, isT_int, isT_bool, isT_lst, isC_ok, Bool.not_true, Bool.not_false, ln_0, ln_1, ln_2, ln_3, ln_4, lm_0, lm_1, lm_2, lm_3, lm_4, lm_5, lm_6, Option.bind_some, Option.bind_none, true_and, and_true, eq_self, ioIs, ite_and, if_true, if_false, ite_true, ite_false, reduceIte, Bool.false_eq_true, reduceCtorEq, decide_eq_true_eq, cdec_eq, cdec_ne, beq_iff_eq, Bool.not_eq_true', tg_number_letter, tg_number_plus, tg_number_row, tg_number_star, tg_letter_number, tg_letter_plus, tg_letter_row, tg_letter_star, tg_plus_number, tg_plus_letter, tg_plus_row, tg_plus_star, tg_row_number, tg_row_letter, tg_row_plus, tg_row_star, tg_star_number, tg_star_letter, tg_star_plus, tg_star_row]
      exact q
    | num a b =>
      unfold mdD
      try simp only [wpS_seq, wpS_next, wpS_if, wpS_ite, wpS_thn, wpS_ret, wpS_retO, wpS_drop, wpS_bad, wpS_nx, wpS_rt, wpS_sbad, wpS_ofO, wpS_frz', wpR_ok, wpR_bad, wpR_bind, wpR_ite, wpO_ok, wpO_bad, wpO_ite, wpO_toR, wpO_toR', wpO_toRO, wpX_ok, wpX_exc, wpX_bad, wpX_ite, wpX_ofD, wpX_noExc, wpO_ofD, wp_toRO1, wpR_noExc,
 sAsg, sAsgO, sOwnSet, sPar, putFro_if, putOwn_if, sto_no, sto_fro, sto_own, frz, dVar, dC, dOp, dUn, dLs, aNil, aCons, dB, asB, dAnd, dOr, dNot, dAndV, dOrV, dNotV, dIfE, dTru, ofB, dFr, dMove, dTup, dLsO, opLst, dSl, pNone, pSome, asI, dOwnIx, ownL, dOwnLen, dOwnSl, dAppend, dPop, dCall0, dCall1, DL.call1, dMeth0, isC, wp_make, List.append_nil, dFld, oFldN, dOwnFld, sOwnFld, sf_00, sf_11, sf_22, sf_33, sf_0, sf_1, sf_2, sf_3, ownI, dCatO, iLst, asL, iRg, asRg, iRg3, asRg3, sFor, sWhile, dComp, wipeR,
 i_add, i_op0, i_op, i_eq, i_ne, s_eq, s_ne, s_add, l_ix, t_ix, l_add, l_cat, i_int, b_int, i_abs, l_len, t_len, r_len, s_len, i_str, i_max, i_min, oNeg, atI_0, atI_1, atI_2, atI_3, atI_m1, ixNL_0, ixNL_1, ixNL_2, ixNL_3,
 get_0, get_1, get_2, get_3, get_4, get_5, get_6, get_7, get_8, get_9, set_0, set_1, set_2, set_3, set_4, set_5, set_6, set_7, set_8, set_9, isT_tup, isT_str, isT_int, isT_bool, isT_lst, isC_ok, Bool.not_true, Bool.not_false, ln_0, ln_1, ln_2, ln_3, ln_4, lm_0, lm_1, lm_2, lm_3, lm_4, lm_5, lm_6, Option.bind_some, Option.bind_none, true_and, and_true, eq_self, ioIs, ite_and, if_true, if_false, ite_true, ite_false, reduceIte, Bool.false_eq_true, reduceCtorEq, decide_eq_true_eq, cdec_eq, cdec_ne, beq_iff_eq, Bool.not_eq_true', tg_number_letter, tg_number_plus, tg_number_row, tg_number_star, tg_letter_number, tg_letter_plus, tg_letter_row, tg_letter_star, tg_plus_number, tg_plus_letter, tg_plus_row, tg_plus_star, tg_row_number, tg_row_letter, tg_row_plus, tg_row_star, tg_star_number, tg_star_letter, tg_star_plus, tg_star_row]
      exact rtext_wp ok.2.2.1 ok.2.2.2 q
    | star t =>
      have h : wt t + 1 ≤ n + 1 := h
      have h60 : wt t + 1 ≤ 60 := h60
      have hm := most60 (t := t) ok (by omega)
      unfold mdD
      try simp only [wpS_seq, wpS_next, wpS_if, wpS_ite, wpS_thn, wpS_ret, wpS_retO, wpS_drop, wpS_bad, wpS_nx, wpS_rt, wpS_sbad, wpS_ofO, wpS_frz', wpR_ok, wpR_bad, wpR_bind, wpR_ite, wpO_ok, wpO_bad, wpO_ite, wpO_toR, wpO_toR', wpO_toRO, wpX_ok, wpX_exc, wpX_bad, wpX_ite, wpX_ofD, wpX_noExc, wpO_ofD, wp_toRO1, wpR_noExc,
 sAsg, sAsgO, sOwnSet, sPar, putFro_if, putOwn_if, sto_no, sto_fro, sto_own, frz, dVar, dC, dOp, dUn, dLs, aNil, aCons, dB, asB, dAnd, dOr, dNot, dAndV, dOrV, dNotV, dIfE, dTru, ofB, dFr, dMove, dTup, dLsO, opLst, dSl, pNone, pSome, asI, dOwnIx, ownL, dOwnLen, dOwnSl, dAppend, dPop, dCall0, dCall1, DL.call1, dMeth0, isC, wp_make, List.append_nil, dFld, oFldN, dOwnFld, sOwnFld, sf_00, sf_11, sf_22, sf_33, sf_0, sf_1, sf_2, sf_3, ownI, dCatO, iLst, asL, iRg, asRg, iRg3, asRg3, sFor, sWhile, dComp, wipeR,
 i_add, i_op0, i_op, i_eq, i_ne, s_eq, s_ne, s_add, l_ix, t_ix, l_add, l_cat, i_int, b_int, i_abs, l_len, t_len, r_len, s_len, i_str, i_max, i_min, oNeg, atI_0, atI_1, atI_2, atI_3, atI_m1, ixNL_0, ixNL_1, ixNL_2, ixNL_3,
 get_0, get_1, get_2, get_3, get_4, get_5, get_6, get_7, get_8, get_9, set_0, set_1, set_2, set_3, set_4, set_5, set_6, set_7, set_8, set_9, isT_tup, isT_str, isT_int, isT_bool, isT_lst, isC_ok, Bool.not_true, Bool.not_false, ln_0, ln_1, ln_2, ln_3, ln_4, lm_0, lm_1, lm_2, lm_3, lm_4, lm_5, lm_6, Option.bind_some, Option.bind_none, true_and, and_true, eq_self, ioIs, ite_and, if_true, if_false, ite_true, ite_false, reduceIte, Bool.false_eq_true, reduceCtorEq, decide_eq_true_eq, cdec_eq, cdec_ne, beq_iff_eq, Bool.not_eq_true', tg_number_letter, tg_number_plus, tg_number_row, tg_number_star, tg_letter_number, tg_letter_plus, tg_letter_row, tg_letter_star, tg_plus_number, tg_plus_letter, tg_plus_row, tg_plus_star, tg_row_number, tg_row_letter, tg_row_plus, tg_row_star, tg_star_number, tg_star_letter, tg_star_plus, tg_star_row]
      refine wpart_wp (t := t) ok (by omega) (fun q => write_wp (t := t) ok (by omega) (by omega) q) _ ?_
      have hw := wrap_len (lvS t < 2) (wr t)
      try simp only [wpS_seq, wpS_next, wpS_if, wpS_ite, wpS_thn, wpS_ret, wpS_retO, wpS_drop, wpS_bad, wpS_nx, wpS_rt, wpS_sbad, wpS_ofO, wpS_frz', wpR_ok, wpR_bad, wpR_bind, wpR_ite, wpO_ok, wpO_bad, wpO_ite, wpO_toR, wpO_toR', wpO_toRO, wpX_ok, wpX_exc, wpX_bad, wpX_ite, wpX_ofD, wpX_noExc, wpO_ofD, wp_toRO1, wpR_noExc,
 sAsg, sAsgO, sOwnSet, sPar, putFro_if, putOwn_if, sto_no, sto_fro, sto_own, frz, dVar, dC, dOp, dUn, dLs, aNil, aCons, dB, asB, dAnd, dOr, dNot, dAndV, dOrV, dNotV, dIfE, dTru, ofB, dFr, dMove, dTup, dLsO, opLst, dSl, pNone, pSome, asI, dOwnIx, ownL, dOwnLen, dOwnSl, dAppend, dPop, dCall0, dCall1, DL.call1, dMeth0, isC, wp_make, List.append_nil, dFld, oFldN, dOwnFld, sOwnFld, sf_00, sf_11, sf_22, sf_33, sf_0, sf_1, sf_2, sf_3, ownI, dCatO, iLst, asL, iRg, asRg, iRg3, asRg3, sFor, sWhile, dComp, wipeR,
 i_add, i_op0, i_op, i_eq, i_ne, s_eq, s_ne, s_add, l_ix, t_ix, l_add, l_cat, i_int, b_int, i_abs, l_len, t_len, r_len, s_len, i_str, i_max, i_min, oNeg, atI_0, atI_1, atI_2, atI_3, atI_m1, ixNL_0, ixNL_1, ixNL_2, ixNL_3,
 get_0, get_1, get_2, get_3, get_4, get_5, get_6, get_7, get_8, get_9, set_0, set_1, set_2, set_3, set_4, set_5, set_6, set_7, set_8, set_9, isT_tup, isT_str, isT_int, isT_bool, isT_lst, isC_ok, Bool.not_true, Bool.not_false, ln_0, ln_1, ln_2, ln_3, ln_4, lm_0, lm_1, lm_2, lm_3, lm_4, lm_5, lm_6, Option.bind_some, Option.bind_none, true_and, and_true, eq_self, ioIs, ite_and, if_true, if_false, ite_true, ite_false, reduceIte, Bool.false_eq_true, reduceCtorEq, decide_eq_true_eq, cdec_eq, cdec_ne, beq_iff_eq, Bool.not_eq_true']
      refine ⟨len_le (by rw [l3]; omega), ?_⟩
      rw [wrap_if (lv2 t)]
      exact q
    | plus s t =>
      have h : wt s + wt t ≤ n + 1 := h
      have h60 : wt s + wt t ≤ 60 := h60
      have := wt_two s
      have := wt_two t
      have hm := most60 ok.1 (by omega)
      have hm' := most60 ok.2 (by omega)
      unfold mdD
      try simp only [wpS_seq, wpS_next, wpS_if, wpS_ite, wpS_thn, wpS_ret, wpS_retO, wpS_drop, wpS_bad, wpS_nx, wpS_rt, wpS_sbad, wpS_ofO, wpS_frz', wpR_ok, wpR_bad, wpR_bind, wpR_ite, wpO_ok, wpO_bad, wpO_ite, wpO_toR, wpO_toR', wpO_toRO, wpX_ok, wpX_exc, wpX_bad, wpX_ite, wpX_ofD, wpX_noExc, wpO_ofD, wp_toRO1, wpR_noExc,
 sAsg, sAsgO, sOwnSet, sPar, putFro_if, putOwn_if, sto_no, sto_fro, sto_own, frz, dVar, dC, dOp, dUn, dLs, aNil, aCons, dB, asB, dAnd, dOr, dNot, dAndV, dOrV, dNotV, dIfE, dTru, ofB, dFr, dMove, dTup, dLsO, opLst, dSl, pNone, pSome, asI, dOwnIx, ownL, dOwnLen, dOwnSl, dAppend, dPop, dCall0, dCall1, DL.call1, dMeth0, isC, wp_make, List.append_nil, dFld, oFldN, dOwnFld, sOwnFld, sf_00, sf_11, sf_22, sf_33, sf_0, sf_1, sf_2, sf_3, ownI, dCatO, iLst, asL, iRg, asRg, iRg3, asRg3, sFor, sWhile, dComp, wipeR,
 i_add, i_op0, i_op, i_eq, i_ne, s_eq, s_ne, s_add, l_ix, t_ix, l_add, l_cat, i_int, b_int, i_abs, l_len, t_len, r_len, s_len, i_str, i_max, i_min, oNeg, atI_0, atI_1, atI_2, atI_3, atI_m1, ixNL_0, ixNL_1, ixNL_2, ixNL_3,
 get_0, get_1, get_2, get_3, get_4, get_5, get_6, get_7, get_8, get_9, set_0, set_1, set_2, set_3, set_4, set_5, set_6, set_7, set_8, set_9, isT_tup, isT_str, isT_int, isT_bool, isT_lst, isC_ok, Bool.not_true, Bool.not_false, ln_0, ln_1, ln_2, ln_3, ln_4, lm_0, lm_1, lm_2, lm_3, lm_4, lm_5, lm_6, Option.bind_some, Option.bind_none, true_and, and_true, eq_self, ioIs, ite_and, if_true, if_false, ite_true, ite_false, reduceIte, Bool.false_eq_true, reduceCtorEq, decide_eq_true_eq, cdec_eq, cdec_ne, beq_iff_eq, Bool.not_eq_true', tg_number_letter, tg_number_plus, tg_number_row, tg_number_star, tg_letter_number, tg_letter_plus, tg_letter_row, tg_letter_star, tg_plus_number, tg_plus_letter, tg_plus_row, tg_plus_star, tg_row_number, tg_row_letter, tg_row_plus, tg_row_star, tg_star_number, tg_star_letter, tg_star_plus, tg_star_row]
      refine wpart_wp ok.1 (by omega) (fun q => write_wp (t := s) ok.1 (by omega) (by omega) q) _ ?_
      have e0 : wrap (lvS s < 0) (wr s) = wr s := by unfold wrap; rw [if_neg (by rw [lv0]; exact id)]
      rw [e0]
      try simp only [wpS_seq, wpS_next, wpS_if, wpS_ite, wpS_thn, wpS_ret, wpS_retO, wpS_drop, wpS_bad, wpS_nx, wpS_rt, wpS_sbad, wpS_ofO, wpS_frz', wpR_ok, wpR_bad, wpR_bind, wpR_ite, wpO_ok, wpO_bad, wpO_ite, wpO_toR, wpO_toR', wpO_toRO, wpX_ok, wpX_exc, wpX_bad, wpX_ite, wpX_ofD, wpX_noExc, wpO_ofD, wp_toRO1, wpR_noExc,
 sAsg, sAsgO, sOwnSet, sPar, putFro_if, putOwn_if, sto_no, sto_fro, sto_own, frz, dVar, dC, dOp, dUn, dLs, aNil, aCons, dB, asB, dAnd, dOr, dNot, dAndV, dOrV, dNotV, dIfE, dTru, ofB, dFr, dMove, dTup, dLsO, opLst, dSl, pNone, pSome, asI, dOwnIx, ownL, dOwnLen, dOwnSl, dAppend, dPop, dCall0, dCall1, DL.call1, dMeth0, isC, wp_make, List.append_nil, dFld, oFldN, dOwnFld, sOwnFld, sf_00, sf_11, sf_22, sf_33, sf_0, sf_1, sf_2, sf_3, ownI, dCatO, iLst, asL, iRg, asRg, iRg3, asRg3, sFor, sWhile, dComp, wipeR,
 i_add, i_op0, i_op, i_eq, i_ne, s_eq, s_ne, s_add, l_ix, t_ix, l_add, l_cat, i_int, b_int, i_abs, l_len, t_len, r_len, s_len, i_str, i_max, i_min, oNeg, atI_0, atI_1, atI_2, atI_3, atI_m1, ixNL_0, ixNL_1, ixNL_2, ixNL_3,
 get_0, get_1, get_2, get_3, get_4, get_5, get_6, get_7, get_8, get_9, set_0, set_1, set_2, set_3, set_4, set_5, set_6, set_7, set_8, set_9, isT_tup, isT_str, isT_int, isT_bool, isT_lst, isC_ok, Bool.not_true, Bool.not_false, ln_0, ln_1, ln_2, ln_3, ln_4, lm_0, lm_1, lm_2, lm_3, lm_4, lm_5, lm_6, Option.bind_some, Option.bind_none, true_and, and_true, eq_self, ioIs, ite_and, if_true, if_false, ite_true, ite_false, reduceIte, Bool.false_eq_true, reduceCtorEq, decide_eq_true_eq, cdec_eq, cdec_ne, beq_iff_eq, Bool.not_eq_true']
      refine ⟨len_le (by rw [l4]; omega), ?_⟩
      refine wpart_wp ok.2 (by omega) (fun q => write_wp (t := t) ok.2 (by omega) (by omega) q) _ ?_
      have hw := wrap_len (lvS t < 1) (wr t)
      try simp only [wpS_seq, wpS_next, wpS_if, wpS_ite, wpS_thn, wpS_ret, wpS_retO, wpS_drop, wpS_bad, wpS_nx, wpS_rt, wpS_sbad, wpS_ofO, wpS_frz', wpR_ok, wpR_bad, wpR_bind, wpR_ite, wpO_ok, wpO_bad, wpO_ite, wpO_toR, wpO_toR', wpO_toRO, wpX_ok, wpX_exc, wpX_bad, wpX_ite, wpX_ofD, wpX_noExc, wpO_ofD, wp_toRO1, wpR_noExc,
 sAsg, sAsgO, sOwnSet, sPar, putFro_if, putOwn_if, sto_no, sto_fro, sto_own, frz, dVar, dC, dOp, dUn, dLs, aNil, aCons, dB, asB, dAnd, dOr, dNot, dAndV, dOrV, dNotV, dIfE, dTru, ofB, dFr, dMove, dTup, dLsO, opLst, dSl, pNone, pSome, asI, dOwnIx, ownL, dOwnLen, dOwnSl, dAppend, dPop, dCall0, dCall1, DL.call1, dMeth0, isC, wp_make, List.append_nil, dFld, oFldN, dOwnFld, sOwnFld, sf_00, sf_11, sf_22, sf_33, sf_0, sf_1, sf_2, sf_3, ownI, dCatO, iLst, asL, iRg, asRg, iRg3, asRg3, sFor, sWhile, dComp, wipeR,
 i_add, i_op0, i_op, i_eq, i_ne, s_eq, s_ne, s_add, l_ix, t_ix, l_add, l_cat, i_int, b_int, i_abs, l_len, t_len, r_len, s_len, i_str, i_max, i_min, oNeg, atI_0, atI_1, atI_2, atI_3, atI_m1, ixNL_0, ixNL_1, ixNL_2, ixNL_3,
 get_0, get_1, get_2, get_3, get_4, get_5, get_6, get_7, get_8, get_9, set_0, set_1, set_2, set_3, set_4, set_5, set_6, set_7, set_8, set_9, isT_tup, isT_str, isT_int, isT_bool, isT_lst, isC_ok, Bool.not_true, Bool.not_false, ln_0, ln_1, ln_2, ln_3, ln_4, lm_0, lm_1, lm_2, lm_3, lm_4, lm_5, lm_6, Option.bind_some, Option.bind_none, true_and, and_true, eq_self, ioIs, ite_and, if_true, if_false, ite_true, ite_false, reduceIte, Bool.false_eq_true, reduceCtorEq, decide_eq_true_eq, cdec_eq, cdec_ne, beq_iff_eq, Bool.not_eq_true']
      refine ⟨len_le (by rw [sapp, l4]; omega), ?_⟩
      rw [wrap_if (lv1 t)]
      exact q
    | row s t =>
      have h : wt s + wt t ≤ n + 1 := h
      have h60 : wt s + wt t ≤ 60 := h60
      have := wt_two s
      have := wt_two t
      have hm := most60 ok.1 (by omega)
      have hm' := most60 ok.2 (by omega)
      unfold mdD
      try simp only [wpS_seq, wpS_next, wpS_if, wpS_ite, wpS_thn, wpS_ret, wpS_retO, wpS_drop, wpS_bad, wpS_nx, wpS_rt, wpS_sbad, wpS_ofO, wpS_frz', wpR_ok, wpR_bad, wpR_bind, wpR_ite, wpO_ok, wpO_bad, wpO_ite, wpO_toR, wpO_toR', wpO_toRO, wpX_ok, wpX_exc, wpX_bad, wpX_ite, wpX_ofD, wpX_noExc, wpO_ofD, wp_toRO1, wpR_noExc,
 sAsg, sAsgO, sOwnSet, sPar, putFro_if, putOwn_if, sto_no, sto_fro, sto_own, frz, dVar, dC, dOp, dUn, dLs, aNil, aCons, dB, asB, dAnd, dOr, dNot, dAndV, dOrV, dNotV, dIfE, dTru, ofB, dFr, dMove, dTup, dLsO, opLst, dSl, pNone, pSome, asI, dOwnIx, ownL, dOwnLen, dOwnSl, dAppend, dPop, dCall0, dCall1, DL.call1, dMeth0, isC, wp_make, List.append_nil, dFld, oFldN, dOwnFld, sOwnFld, sf_00, sf_11, sf_22, sf_33, sf_0, sf_1, sf_2, sf_3, ownI, dCatO, iLst, asL, iRg, asRg, iRg3, asRg3, sFor, sWhile, dComp, wipeR,
 i_add, i_op0, i_op, i_eq, i_ne, s_eq, s_ne, s_add, l_ix, t_ix, l_add, l_cat, i_int, b_int, i_abs, l_len, t_len, r_len, s_len, i_str, i_max, i_min, oNeg, atI_0, atI_1, atI_2, atI_3, atI_m1, ixNL_0, ixNL_1, ixNL_2, ixNL_3,
 get_0, get_1, get_2, get_3, get_4, get_5, get_6, get_7, get_8, get_9, set_0, set_1, set_2, set_3, set_4, set_5, set_6, set_7, set_8, set_9, isT_tup, isT_str, isT_int, isT_bool, isT_lst, isC_ok, Bool.not_true, Bool.not_false, ln_0, ln_1, ln_2, ln_3, ln_4, lm_0, lm_1, lm_2, lm_3, lm_4, lm_5, lm_6, Option.bind_some, Option.bind_none, true_and, and_true, eq_self, ioIs, ite_and, if_true, if_false, ite_true, ite_false, reduceIte, Bool.false_eq_true, reduceCtorEq, decide_eq_true_eq, cdec_eq, cdec_ne, beq_iff_eq, Bool.not_eq_true', tg_number_letter, tg_number_plus, tg_number_row, tg_number_star, tg_letter_number, tg_letter_plus, tg_letter_row, tg_letter_star, tg_plus_number, tg_plus_letter, tg_plus_row, tg_plus_star, tg_row_number, tg_row_letter, tg_row_plus, tg_row_star, tg_star_number, tg_star_letter, tg_star_plus, tg_star_row]
      refine wpart_wp ok.1 (by omega) (fun q => write_wp (t := s) ok.1 (by omega) (by omega) q) _ ?_
      have hw := wrap_len (lvS s < 1) (wr s)
      try simp only [wpS_seq, wpS_next, wpS_if, wpS_ite, wpS_thn, wpS_ret, wpS_retO, wpS_drop, wpS_bad, wpS_nx, wpS_rt, wpS_sbad, wpS_ofO, wpS_frz', wpR_ok, wpR_bad, wpR_bind, wpR_ite, wpO_ok, wpO_bad, wpO_ite, wpO_toR, wpO_toR', wpO_toRO, wpX_ok, wpX_exc, wpX_bad, wpX_ite, wpX_ofD, wpX_noExc, wpO_ofD, wp_toRO1, wpR_noExc,
 sAsg, sAsgO, sOwnSet, sPar, putFro_if, putOwn_if, sto_no, sto_fro, sto_own, frz, dVar, dC, dOp, dUn, dLs, aNil, aCons, dB, asB, dAnd, dOr, dNot, dAndV, dOrV, dNotV, dIfE, dTru, ofB, dFr, dMove, dTup, dLsO, opLst, dSl, pNone, pSome, asI, dOwnIx, ownL, dOwnLen, dOwnSl, dAppend, dPop, dCall0, dCall1, DL.call1, dMeth0, isC, wp_make, List.append_nil, dFld, oFldN, dOwnFld, sOwnFld, sf_00, sf_11, sf_22, sf_33, sf_0, sf_1, sf_2, sf_3, ownI, dCatO, iLst, asL, iRg, asRg, iRg3, asRg3, sFor, sWhile, dComp, wipeR,
 i_add, i_op0, i_op, i_eq, i_ne, s_eq, s_ne, s_add, l_ix, t_ix, l_add, l_cat, i_int, b_int, i_abs, l_len, t_len, r_len, s_len, i_str, i_max, i_min, oNeg, atI_0, atI_1, atI_2, atI_3, atI_m1, ixNL_0, ixNL_1, ixNL_2, ixNL_3,
 get_0, get_1, get_2, get_3, get_4, get_5, get_6, get_7, get_8, get_9, set_0, set_1, set_2, set_3, set_4, set_5, set_6, set_7, set_8, set_9, isT_tup, isT_str, isT_int, isT_bool, isT_lst, isC_ok, Bool.not_true, Bool.not_false, ln_0, ln_1, ln_2, ln_3, ln_4, lm_0, lm_1, lm_2, lm_3, lm_4, lm_5, lm_6, Option.bind_some, Option.bind_none, true_and, and_true, eq_self, ioIs, ite_and, if_true, if_false, ite_true, ite_false, reduceIte, Bool.false_eq_true, reduceCtorEq, decide_eq_true_eq, cdec_eq, cdec_ne, beq_iff_eq, Bool.not_eq_true']
      refine ⟨len_le (by rw [l5]; omega), ?_⟩
      refine wpart_wp ok.2 (by omega) (fun q => write_wp (t := t) ok.2 (by omega) (by omega) q) _ ?_
      have hw := wrap_len (lvS t < 2) (wr t)
      try simp only [wpS_seq, wpS_next, wpS_if, wpS_ite, wpS_thn, wpS_ret, wpS_retO, wpS_drop, wpS_bad, wpS_nx, wpS_rt, wpS_sbad, wpS_ofO, wpS_frz', wpR_ok, wpR_bad, wpR_bind, wpR_ite, wpO_ok, wpO_bad, wpO_ite, wpO_toR, wpO_toR', wpO_toRO, wpX_ok, wpX_exc, wpX_bad, wpX_ite, wpX_ofD, wpX_noExc, wpO_ofD, wp_toRO1, wpR_noExc,
 sAsg, sAsgO, sOwnSet, sPar, putFro_if, putOwn_if, sto_no, sto_fro, sto_own, frz, dVar, dC, dOp, dUn, dLs, aNil, aCons, dB, asB, dAnd, dOr, dNot, dAndV, dOrV, dNotV, dIfE, dTru, ofB, dFr, dMove, dTup, dLsO, opLst, dSl, pNone, pSome, asI, dOwnIx, ownL, dOwnLen, dOwnSl, dAppend, dPop, dCall0, dCall1, DL.call1, dMeth0, isC, wp_make, List.append_nil, dFld, oFldN, dOwnFld, sOwnFld, sf_00, sf_11, sf_22, sf_33, sf_0, sf_1, sf_2, sf_3, ownI, dCatO, iLst, asL, iRg, asRg, iRg3, asRg3, sFor, sWhile, dComp, wipeR,
 i_add, i_op0, i_op, i_eq, i_ne, s_eq, s_ne, s_add, l_ix, t_ix, l_add, l_cat, i_int, b_int, i_abs, l_len, t_len, r_len, s_len, i_str, i_max, i_min, oNeg, atI_0, atI_1, atI_2, atI_3, atI_m1, ixNL_0, ixNL_1, ixNL_2, ixNL_3,
 get_0, get_1, get_2, get_3, get_4, get_5, get_6, get_7, get_8, get_9, set_0, set_1, set_2, set_3, set_4, set_5, set_6, set_7, set_8, set_9, isT_tup, isT_str, isT_int, isT_bool, isT_lst, isC_ok, Bool.not_true, Bool.not_false, ln_0, ln_1, ln_2, ln_3, ln_4, lm_0, lm_1, lm_2, lm_3, lm_4, lm_5, lm_6, Option.bind_some, Option.bind_none, true_and, and_true, eq_self, ioIs, ite_and, if_true, if_false, ite_true, ite_false, reduceIte, Bool.false_eq_true, reduceCtorEq, decide_eq_true_eq, cdec_eq, cdec_ne, beq_iff_eq, Bool.not_eq_true']
      refine ⟨len_le (by rw [sapp, l5]; omega), ?_⟩
      rw [wrap_if (lv1 s), wrap_if (lv2 t)]
      exact q
theorem isint_wp {a : Int} {Q : D → Prop} {Z : Nat → D → Prop} (q : Q (.bl true)) : (fn_law_is_integer [.int a]).wpX Q Z := by
  unfold fn_law_is_integer bd_law_is_integer
  rw [wp_fn0, show initR 1 [.int a] = [.fro (.int a)] from rfl]
  try simp only [wpS_seq, wpS_next, wpS_if, wpS_ite, wpS_thn, wpS_ret, wpS_retO, wpS_drop, wpS_bad, wpS_nx, wpS_rt, wpS_sbad, wpS_ofO, wpS_frz', wpR_ok, wpR_bad, wpR_bind, wpR_ite, wpO_ok, wpO_bad, wpO_ite, wpO_toR, wpO_toR', wpO_toRO, wpX_ok, wpX_exc, wpX_bad, wpX_ite, wpX_ofD, wpX_noExc, wpO_ofD, wp_toRO1, wpR_noExc,
 sAsg, sAsgO, sOwnSet, sPar, putFro_if, putOwn_if, sto_no, sto_fro, sto_own, frz, dVar, dC, dOp, dUn, dLs, aNil, aCons, dB, asB, dAnd, dOr, dNot, dAndV, dOrV, dNotV, dIfE, dTru, ofB, dFr, dMove, dTup, dLsO, opLst, dSl, pNone, pSome, asI, dOwnIx, ownL, dOwnLen, dOwnSl, dAppend, dPop, dCall0, dCall1, DL.call1, dMeth0, isC, wp_make, List.append_nil, dFld, oFldN, dOwnFld, sOwnFld, sf_00, sf_11, sf_22, sf_33, sf_0, sf_1, sf_2, sf_3, ownI, dCatO, iLst, asL, iRg, asRg, iRg3, asRg3, sFor, sWhile, dComp, wipeR,
 i_add, i_op0, i_op, i_eq, i_ne, s_eq, s_ne, s_add, l_ix, t_ix, l_add, l_cat, i_int, b_int, i_abs, l_len, t_len, r_len, s_len, i_str, i_max, i_min, oNeg, atI_0, atI_1, atI_2, atI_3, atI_m1, ixNL_0, ixNL_1, ixNL_2, ixNL_3,
 get_0, get_1, get_2, get_3, get_4, get_5, get_6, get_7, get_8, get_9, set_0, set_1, set_2, set_3, set_4, set_5, set_6, set_7, set_8, set_9, isT_tup, isT_str, isT_int, isT_bool, isT_lst, isC_ok, Bool.not_true, Bool.not_false, ln_0, ln_1, ln_2, ln_3, ln_4, lm_0, lm_1, lm_2, lm_3, lm_4, lm_5, lm_6, Option.bind_some, Option.bind_none, true_and, and_true, eq_self, ioIs, ite_and, if_true, if_false, ite_true, ite_false, reduceIte, Bool.false_eq_true, reduceCtorEq, decide_eq_true_eq, cdec_eq, cdec_ne, beq_iff_eq, Bool.not_eq_true']
  exact q
theorem same_wp {a b : Int} {Q : D → Prop} {Z : Nat → D → Prop} (q : Q (.bl true)) : (fn_law_same [.ins 0 [.int a, .int b], .tup [.int a, .int b]]).wpX Q Z := by
  have i0 : (nmW 0).idxOf ("top" : Str) = 0 := by decide +kernel
  have i1 : (nmW 0).idxOf ("bottom" : Str) = 1 := by decide +kernel
  have m0 : (0 ∈ ([0] : List Nat)) = True := by simp
  unfold fn_law_same bd_law_same
  rw [wp_fn0, show initR 2 [.ins 0 [.int a, .int b], .tup [.int a, .int b]] = [.fro (.ins 0 [.int a, .int b]), .fro (.tup [.int a, .int b])] from rfl]
  try simp only [wpS_seq, wpS_next, wpS_if, wpS_ite, wpS_thn, wpS_ret, wpS_retO, wpS_drop, wpS_bad, wpS_nx, wpS_rt, wpS_sbad, wpS_ofO, wpS_frz', wpR_ok, wpR_bad, wpR_bind, wpR_ite, wpO_ok, wpO_bad, wpO_ite, wpO_toR, wpO_toR', wpO_toRO, wpX_ok, wpX_exc, wpX_bad, wpX_ite, wpX_ofD, wpX_noExc, wpO_ofD, wp_toRO1, wpR_noExc,
 sAsg, sAsgO, sOwnSet, sPar, putFro_if, putOwn_if, sto_no, sto_fro, sto_own, frz, dVar, dC, dOp, dUn, dLs, aNil, aCons, dB, asB, dAnd, dOr, dNot, dAndV, dOrV, dNotV, dIfE, dTru, ofB, dFr, dMove, dTup, dLsO, opLst, dSl, pNone, pSome, asI, dOwnIx, ownL, dOwnLen, dOwnSl, dAppend, dPop, dCall0, dCall1, DL.call1, dMeth0, isC, wp_make, List.append_nil, dFld, oFldN, dOwnFld, sOwnFld, sf_00, sf_11, sf_22, sf_33, sf_0, sf_1, sf_2, sf_3, ownI, dCatO, iLst, asL, iRg, asRg, iRg3, asRg3, sFor, sWhile, dComp, wipeR,
 i_add, i_op0, i_op, i_eq, i_ne, s_eq, s_ne, s_add, l_ix, t_ix, l_add, l_cat, i_int, b_int, i_abs, l_len, t_len, r_len, s_len, i_str, i_max, i_min, oNeg, atI_0, atI_1, atI_2, atI_3, atI_m1, ixNL_0, ixNL_1, ixNL_2, ixNL_3,
 get_0, get_1, get_2, get_3, get_4, get_5, get_6, get_7, get_8, get_9, set_0, set_1, set_2, set_3, set_4, set_5, set_6, set_7, set_8, set_9, isT_tup, isT_str, isT_int, isT_bool, isT_lst, isC_ok, Bool.not_true, Bool.not_false, ln_0, ln_1, ln_2, ln_3, ln_4, lm_0, lm_1, lm_2, lm_3, lm_4, lm_5, lm_6, Option.bind_some, Option.bind_none, true_and, and_true, eq_self, ioIs, ite_and, if_true, if_false, ite_true, ite_false, reduceIte, Bool.false_eq_true, reduceCtorEq, decide_eq_true_eq, cdec_eq, cdec_ne, beq_iff_eq, Bool.not_eq_true', i0, i1, m0]
  refine isint_wp ?_
  try simp only [wpS_seq, wpS_next, wpS_if, wpS_ite, wpS_thn, wpS_ret, wpS_retO, wpS_drop, wpS_bad, wpS_nx, wpS_rt, wpS_sbad, wpS_ofO, wpS_frz', wpR_ok, wpR_bad, wpR_bind, wpR_ite, wpO_ok, wpO_bad, wpO_ite, wpO_toR, wpO_toR', wpO_toRO, wpX_ok, wpX_exc, wpX_bad, wpX_ite, wpX_ofD, wpX_noExc, wpO_ofD, wp_toRO1, wpR_noExc,
 sAsg, sAsgO, sOwnSet, sPar, putFro_if, putOwn_if, sto_no, sto_fro, sto_own, frz, dVar, dC, dOp, dUn, dLs, aNil, aCons, dB, asB, dAnd, dOr, dNot, dAndV, dOrV, dNotV, dIfE, dTru, ofB, dFr, dMove, dTup, dLsO, opLst, dSl, pNone, pSome, asI, dOwnIx, ownL, dOwnLen, dOwnSl, dAppend, dPop, dCall0, dCall1, DL.call1, dMeth0, isC, wp_make, List.append_nil, dFld, oFldN, dOwnFld, sOwnFld, sf_00, sf_11, sf_22, sf_33, sf_0, sf_1, sf_2, sf_3, ownI, dCatO, iLst, asL, iRg, asRg, iRg3, asRg3, sFor, sWhile, dComp, wipeR,
 i_add, i_op0, i_op, i_eq, i_ne, s_eq, s_ne, s_add, l_ix, t_ix, l_add, l_cat, i_int, b_int, i_abs, l_len, t_len, r_len, s_len, i_str, i_max, i_min, oNeg, atI_0, atI_1, atI_2, atI_3, atI_m1, ixNL_0, ixNL_1, ixNL_2, ixNL_3,
 get_0, get_1, get_2, get_3, get_4, get_5, get_6, get_7, get_8, get_9, set_0, set_1, set_2, set_3, set_4, set_5, set_6, set_7, set_8, set_9, isT_tup, isT_str, isT_int, isT_bool, isT_lst, isC_ok, Bool.not_true, Bool.not_false, ln_0, ln_1, ln_2, ln_3, ln_4, lm_0, lm_1, lm_2, lm_3, lm_4, lm_5, lm_6, Option.bind_some, Option.bind_none, true_and, and_true, eq_self, ioIs, ite_and, if_true, if_false, ite_true, ite_false, reduceIte, Bool.false_eq_true, reduceCtorEq, decide_eq_true_eq, cdec_eq, cdec_ne, beq_iff_eq, Bool.not_eq_true', i0, i1, m0]
  refine isint_wp ?_
  try simp only [wpS_seq, wpS_next, wpS_if, wpS_ite, wpS_thn, wpS_ret, wpS_retO, wpS_drop, wpS_bad, wpS_nx, wpS_rt, wpS_sbad, wpS_ofO, wpS_frz', wpR_ok, wpR_bad, wpR_bind, wpR_ite, wpO_ok, wpO_bad, wpO_ite, wpO_toR, wpO_toR', wpO_toRO, wpX_ok, wpX_exc, wpX_bad, wpX_ite, wpX_ofD, wpX_noExc, wpO_ofD, wp_toRO1, wpR_noExc,
 sAsg, sAsgO, sOwnSet, sPar, putFro_if, putOwn_if, sto_no, sto_fro, sto_own, frz, dVar, dC, dOp, dUn, dLs, aNil, aCons, dB, asB, dAnd, dOr, dNot, dAndV, dOrV, dNotV, dIfE, dTru, ofB, dFr, dMove, dTup, dLsO, opLst, dSl, pNone, pSome, asI, dOwnIx, ownL, dOwnLen, dOwnSl, dAppend, dPop, dCall0, dCall1, DL.call1, dMeth0, isC, wp_make, List.append_nil, dFld, oFldN, dOwnFld, sOwnFld, sf_00, sf_11, sf_22, sf_33, sf_0, sf_1, sf_2, sf_3, ownI, dCatO, iLst, asL, iRg, asRg, iRg3, asRg3, sFor, sWhile, dComp, wipeR,
 i_add, i_op0, i_op, i_eq, i_ne, s_eq, s_ne, s_add, l_ix, t_ix, l_add, l_cat, i_int, b_int, i_abs, l_len, t_len, r_len, s_len, i_str, i_max, i_min, oNeg, atI_0, atI_1, atI_2, atI_3, atI_m1, ixNL_0, ixNL_1, ixNL_2, ixNL_3,
 get_0, get_1, get_2, get_3, get_4, get_5, get_6, get_7, get_8, get_9, set_0, set_1, set_2, set_3, set_4, set_5, set_6, set_7, set_8, set_9, isT_tup, isT_str, isT_int, isT_bool, isT_lst, isC_ok, Bool.not_true, Bool.not_false, ln_0, ln_1, ln_2, ln_3, ln_4, lm_0, lm_1, lm_2, lm_3, lm_4, lm_5, lm_6, Option.bind_some, Option.bind_none, true_and, and_true, eq_self, ioIs, ite_and, if_true, if_false, ite_true, ite_false, reduceIte, Bool.false_eq_true, reduceCtorEq, decide_eq_true_eq, cdec_eq, cdec_ne, beq_iff_eq, Bool.not_eq_true', i0, i1, m0, beq_self_eq_true]
  exact q
def ms (ts : List Tm) : Nat := (ts.map fun t => 2 * wt t - 1).sum
theorem ms_app (ts us : List Tm) : ms (ts ++ us) = ms ts + ms us := by unfold ms; rw [List.map_append, List.sum_append]
theorem ms_one (t : Tm) : ms [t] = 2 * wt t - 1 := by unfold ms; rw [List.map_cons, List.map_nil, List.sum_cons, List.sum_nil]; rfl
def pr (t : Tm) : D := .tup [mdD t, tmD t]
theorem rg12 : rgD 1 2 = [.int 1] := rfl
theorem rg13 : rgD 1 3 = [.int 1, .int 2] := rfl
theorem lt_most {n : Nat} (h : n < 10000000) : n < most := h
theorem sameterm_wp {t : Tm} {Q : D → Prop} {Z : Nat → D → Prop} (ok : TmOk t) (h60 : wt t ≤ 60) (q : Q (.bl true)) : (fn_law_same_term [mdD t, tmD t]).wpX Q Z := by
  unfold fn_law_same_term bd_law_same_term
  rw [wp_fn0, show initR 7 [mdD t, tmD t] = [.fro (mdD t), .fro (tmD t), .no, .no, .no, .no, .no] from rfl]
  refine wp_cut (fun ρ => ρ = [.fro (mdD t), .fro (tmD t), .own false 1 (.lst [pr t]), .no, .no, .no, .no]) (by try simp only [wpS_seq, wpS_next, wpS_if, wpS_ite, wpS_thn, wpS_ret, wpS_retO, wpS_drop, wpS_bad, wpS_nx, wpS_rt, wpS_sbad, wpS_ofO, wpS_frz', wpR_ok, wpR_bad, wpR_bind, wpR_ite, wpO_ok, wpO_bad, wpO_ite, wpO_toR, wpO_toR', wpO_toRO, wpX_ok, wpX_exc, wpX_bad, wpX_ite, wpX_ofD, wpX_noExc, wpO_ofD, wp_toRO1, wpR_noExc,
 sAsg, sAsgO, sOwnSet, sPar, putFro_if, putOwn_if, sto_no, sto_fro, sto_own, frz, dVar, dC, dOp, dUn, dLs, aNil, aCons, dB, asB, dAnd, dOr, dNot, dAndV, dOrV, dNotV, dIfE, dTru, ofB, dFr, dMove, dTup, dLsO, opLst, dSl, pNone, pSome, asI, dOwnIx, ownL, dOwnLen, dOwnSl, dAppend, dPop, dCall0, dCall1, DL.call1, dMeth0, isC, wp_make, List.append_nil, dFld, oFldN, dOwnFld, sOwnFld, sf_00, sf_11, sf_22, sf_33, sf_0, sf_1, sf_2, sf_3, ownI, dCatO, iLst, asL, iRg, asRg, iRg3, asRg3, sFor, sWhile, dComp, wipeR,
 i_add, i_op0, i_op, i_eq, i_ne, s_eq, s_ne, s_add, l_ix, t_ix, l_add, l_cat, i_int, b_int, i_abs, l_len, t_len, r_len, s_len, i_str, i_max, i_min, oNeg, atI_0, atI_1, atI_2, atI_3, atI_m1, ixNL_0, ixNL_1, ixNL_2, ixNL_3,
 get_0, get_1, get_2, get_3, get_4, get_5, get_6, get_7, get_8, get_9, set_0, set_1, set_2, set_3, set_4, set_5, set_6, set_7, set_8, set_9, isT_tup, isT_str, isT_int, isT_bool, isT_lst, isC_ok, Bool.not_true, Bool.not_false, ln_0, ln_1, ln_2, ln_3, ln_4, lm_0, lm_1, lm_2, lm_3, lm_4, lm_5, lm_6, Option.bind_some, Option.bind_none, true_and, and_true, eq_self, ioIs, ite_and, if_true, if_false, ite_true, ite_false, reduceIte, Bool.false_eq_true, reduceCtorEq, decide_eq_true_eq, cdec_eq, cdec_ne, beq_iff_eq, Bool.not_eq_true']; rfl) ?_
  rintro _ rfl
  refine wp_cut (fun ρ => True) ?_ (fun ρ _ => by try simp only [wpS_seq, wpS_next, wpS_if, wpS_ite, wpS_thn, wpS_ret, wpS_retO, wpS_drop, wpS_bad, wpS_nx, wpS_rt, wpS_sbad, wpS_ofO, wpS_frz', wpR_ok, wpR_bad, wpR_bind, wpR_ite, wpO_ok, wpO_bad, wpO_ite, wpO_toR, wpO_toR', wpO_toRO, wpX_ok, wpX_exc, wpX_bad, wpX_ite, wpX_ofD, wpX_noExc, wpO_ofD, wp_toRO1, wpR_noExc,
 sAsg, sAsgO, sOwnSet, sPar, putFro_if, putOwn_if, sto_no, sto_fro, sto_own, frz, dVar, dC, dOp, dUn, dLs, aNil, aCons, dB, asB, dAnd, dOr, dNot, dAndV, dOrV, dNotV, dIfE, dTru, ofB, dFr, dMove, dTup, dLsO, opLst, dSl, pNone, pSome, asI, dOwnIx, ownL, dOwnLen, dOwnSl, dAppend, dPop, dCall0, dCall1, DL.call1, dMeth0, isC, wp_make, List.append_nil, dFld, oFldN, dOwnFld, sOwnFld, sf_00, sf_11, sf_22, sf_33, sf_0, sf_1, sf_2, sf_3, ownI, dCatO, iLst, asL, iRg, asRg, iRg3, asRg3, sFor, sWhile, dComp, wipeR,
 i_add, i_op0, i_op, i_eq, i_ne, s_eq, s_ne, s_add, l_ix, t_ix, l_add, l_cat, i_int, b_int, i_abs, l_len, t_len, r_len, s_len, i_str, i_max, i_min, oNeg, atI_0, atI_1, atI_2, atI_3, atI_m1, ixNL_0, ixNL_1, ixNL_2, ixNL_3,
 get_0, get_1, get_2, get_3, get_4, get_5, get_6, get_7, get_8, get_9, set_0, set_1, set_2, set_3, set_4, set_5, set_6, set_7, set_8, set_9, isT_tup, isT_str, isT_int, isT_bool, isT_lst, isC_ok, Bool.not_true, Bool.not_false, ln_0, ln_1, ln_2, ln_3, ln_4, lm_0, lm_1, lm_2, lm_3, lm_4, lm_5, lm_6, Option.bind_some, Option.bind_none, true_and, and_true, eq_self, ioIs, ite_and, if_true, if_false, ite_true, ite_false, reduceIte, Bool.false_eq_true, reduceCtorEq, decide_eq_true_eq, cdec_eq, cdec_ne, beq_iff_eq, Bool.not_eq_true']; exact q)
  try simp only [wpS_seq, wpS_next, wpS_if, wpS_ite, wpS_thn, wpS_ret, wpS_retO, wpS_drop, wpS_bad, wpS_nx, wpS_rt, wpS_sbad, wpS_ofO, wpS_frz', wpR_ok, wpR_bad, wpR_bind, wpR_ite, wpO_ok, wpO_bad, wpO_ite, wpO_toR, wpO_toR', wpO_toRO, wpX_ok, wpX_exc, wpX_bad, wpX_ite, wpX_ofD, wpX_noExc, wpO_ofD, wp_toRO1, wpR_noExc,
 sAsg, sAsgO, sOwnSet, sPar, putFro_if, putOwn_if, sto_no, sto_fro, sto_own, frz, dVar, dC, dOp, dUn, dLs, aNil, aCons, dB, asB, dAnd, dOr, dNot, dAndV, dOrV, dNotV, dIfE, dTru, ofB, dFr, dMove, dTup, dLsO, opLst, dSl, pNone, pSome, asI, dOwnIx, ownL, dOwnLen, dOwnSl, dAppend, dPop, dCall0, dCall1, DL.call1, dMeth0, isC, wp_make, List.append_nil, dFld, oFldN, dOwnFld, sOwnFld, sf_00, sf_11, sf_22, sf_33, sf_0, sf_1, sf_2, sf_3, ownI, dCatO, iLst, asL, iRg, asRg, iRg3, asRg3, sFor, sWhile, dComp, wipeR,
 i_add, i_op0, i_op, i_eq, i_ne, s_eq, s_ne, s_add, l_ix, t_ix, l_add, l_cat, i_int, b_int, i_abs, l_len, t_len, r_len, s_len, i_str, i_max, i_min, oNeg, atI_0, atI_1, atI_2, atI_3, atI_m1, ixNL_0, ixNL_1, ixNL_2, ixNL_3,
 get_0, get_1, get_2, get_3, get_4, get_5, get_6, get_7, get_8, get_9, set_0, set_1, set_2, set_3, set_4, set_5, set_6, set_7, set_8, set_9, isT_tup, isT_str, isT_int, isT_bool, isT_lst, isC_ok, Bool.not_true, Bool.not_false, ln_0, ln_1, ln_2, ln_3, ln_4, lm_0, lm_1, lm_2, lm_3, lm_4, lm_5, lm_6, Option.bind_some, Option.bind_none, true_and, and_true, eq_self, ioIs, ite_and, if_true, if_false, ite_true, ite_false, reduceIte, Bool.false_eq_true, reduceCtorEq, decide_eq_true_eq, cdec_eq, cdec_ne, beq_iff_eq, Bool.not_eq_true', mBig]
  refine wp_while (fun n ρ => ∃ ts s3 s4 s5 s6, stoOk (some s3) = true ∧ stoOk (some s4) = true ∧ stoOk (some s5) = true ∧ stoOk (some s6) = true ∧ (∀ u ∈ ts, TmOk u) ∧ ms ts < n ∧ ms ts ≤ 1000 ∧ ρ = [.fro (mdD t), .fro (tmD t), .own false 1 (.lst (ts.map pr)), s3, s4, s5, s6]) ?_ _ _ ⟨[t], _, _, _, _, rfl, rfl, rfl, rfl, by simpa using ok, by rw [ms_one]; omega, by rw [ms_one]; omega, rfl⟩
  rintro n _ ⟨ts, s3, s4, s5, s6, z3, z4, z5, z6, oks, hn, hk, rfl⟩
  cases n with
  | zero => omega
  | succ m =>
    refine ⟨m, rfl, ?_⟩
    refine R.wp.mono (Q := fun p => p = (cdec ((0 : Int) < (List.map pr ts).length), [.fro (mdD t), .fro (tmD t), .own false 1 (.lst (ts.map pr)), s3, s4, s5, s6])) (X := fun _ _ _ => False) (by try simp only [wpS_seq, wpS_next, wpS_if, wpS_ite, wpS_thn, wpS_ret, wpS_retO, wpS_drop, wpS_bad, wpS_nx, wpS_rt, wpS_sbad, wpS_ofO, wpS_frz', wpR_ok, wpR_bad, wpR_bind, wpR_ite, wpO_ok, wpO_bad, wpO_ite, wpO_toR, wpO_toR', wpO_toRO, wpX_ok, wpX_exc, wpX_bad, wpX_ite, wpX_ofD, wpX_noExc, wpO_ofD, wp_toRO1, wpR_noExc,
 sAsg, sAsgO, sOwnSet, sPar, putFro_if, putOwn_if, sto_no, sto_fro, sto_own, frz, dVar, dC, dOp, dUn, dLs, aNil, aCons, dB, asB, dAnd, dOr, dNot, dAndV, dOrV, dNotV, dIfE, dTru, ofB, dFr, dMove, dTup, dLsO, opLst, dSl, pNone, pSome, asI, dOwnIx, ownL, dOwnLen, dOwnSl, dAppend, dPop, dCall0, dCall1, DL.call1, dMeth0, isC, wp_make, List.append_nil, dFld, oFldN, dOwnFld, sOwnFld, sf_00, sf_11, sf_22, sf_33, sf_0, sf_1, sf_2, sf_3, ownI, dCatO, iLst, asL, iRg, asRg, iRg3, asRg3, sFor, sWhile, dComp, wipeR,
 i_add, i_op0, i_op, i_eq, i_ne, s_eq, s_ne, s_add, l_ix, t_ix, l_add, l_cat, i_int, b_int, i_abs, l_len, t_len, r_len, s_len, i_str, i_max, i_min, oNeg, atI_0, atI_1, atI_2, atI_3, atI_m1, ixNL_0, ixNL_1, ixNL_2, ixNL_3,
 get_0, get_1, get_2, get_3, get_4, get_5, get_6, get_7, get_8, get_9, set_0, set_1, set_2, set_3, set_4, set_5, set_6, set_7, set_8, set_9, isT_tup, isT_str, isT_int, isT_bool, isT_lst, isC_ok, Bool.not_true, Bool.not_false, ln_0, ln_1, ln_2, ln_3, ln_4, lm_0, lm_1, lm_2, lm_3, lm_4, lm_5, lm_6, Option.bind_some, Option.bind_none, true_and, and_true, eq_self, ioIs, ite_and, if_true, if_false, ite_true, ite_false, reduceIte, Bool.false_eq_true, reduceCtorEq, decide_eq_true_eq, cdec_eq, cdec_ne, beq_iff_eq, Bool.not_eq_true']) ?_ (fun _ _ _ h => h.elim)
    rintro _ rfl
    dsimp only
    by_cases c : (0 : Int) < (List.map pr ts).length
    · rw [if_pos (by rw [cdec_eq]; exact c)]
      obtain ⟨l, u, e⟩ : ∃ l u, ts = l ++ [u] := by
        rcases List.eq_nil_or_concat ts with h | ⟨l, u, h⟩
        · rw [h] at c; simp at c
        · exact ⟨l, u, by rw [h, List.concat_eq_append]⟩
      subst e
      have hu := oks u (by simp)
      have hl : ∀ v ∈ l, TmOk v := fun v hv => oks v (by simp [hv])
      rw [ms_app, ms_one] at hn hk
      have hll : l.length ≤ 1000 := by
        have : l.length ≤ ms l := by
          clear hn hk oks c hl
          induction l with
          | nil => simp
          | cons v l ih =>
            have := wt_two v
            rw [show v :: l = [v] ++ l from rfl, ms_app, ms_one, List.length_append, List.length_singleton]
            omega
        omega
      have e1 : List.map pr (l ++ [u]) = List.map pr l ++ [pr u] := by simp
      rw [e1]
      refine wp_cut (fun ρ => ρ = [.fro (mdD t), .fro (tmD t), .own false 1 (.lst (l.map pr)), .fro (pr u), s4, s5, s6]) (by try simp only [wpS_seq, wpS_next, wpS_if, wpS_ite, wpS_thn, wpS_ret, wpS_retO, wpS_drop, wpS_bad, wpS_nx, wpS_rt, wpS_sbad, wpS_ofO, wpS_frz', wpR_ok, wpR_bad, wpR_bind, wpR_ite, wpO_ok, wpO_bad, wpO_ite, wpO_toR, wpO_toR', wpO_toRO, wpX_ok, wpX_exc, wpX_bad, wpX_ite, wpX_ofD, wpX_noExc, wpO_ofD, wp_toRO1, wpR_noExc,
 sAsg, sAsgO, sOwnSet, sPar, putFro_if, putOwn_if, sto_no, sto_fro, sto_own, frz, dVar, dC, dOp, dUn, dLs, aNil, aCons, dB, asB, dAnd, dOr, dNot, dAndV, dOrV, dNotV, dIfE, dTru, ofB, dFr, dMove, dTup, dLsO, opLst, dSl, pNone, pSome, asI, dOwnIx, ownL, dOwnLen, dOwnSl, dAppend, dPop, dCall0, dCall1, DL.call1, dMeth0, isC, wp_make, List.append_nil, dFld, oFldN, dOwnFld, sOwnFld, sf_00, sf_11, sf_22, sf_33, sf_0, sf_1, sf_2, sf_3, ownI, dCatO, iLst, asL, iRg, asRg, iRg3, asRg3, sFor, sWhile, dComp, wipeR,
 i_add, i_op0, i_op, i_eq, i_ne, s_eq, s_ne, s_add, l_ix, t_ix, l_add, l_cat, i_int, b_int, i_abs, l_len, t_len, r_len, s_len, i_str, i_max, i_min, oNeg, atI_0, atI_1, atI_2, atI_3, atI_m1, ixNL_0, ixNL_1, ixNL_2, ixNL_3,
 get_0, get_1, get_2, get_3, get_4, get_5, get_6, get_7, get_8, get_9, set_0, set_1, set_2, set_3, set_4, set_5, set_6, set_7, set_8, set_9, isT_tup, isT_str, isT_int, isT_bool, isT_lst, isC_ok, Bool.not_true, Bool.not_false, ln_0, ln_1, ln_2, ln_3, ln_4, lm_0, lm_1, lm_2, lm_3, lm_4, lm_5, lm_6, Option.bind_some, Option.bind_none, true_and, and_true, eq_self, ioIs, ite_and, if_true, if_false, ite_true, ite_false, reduceIte, Bool.false_eq_true, reduceCtorEq, decide_eq_true_eq, cdec_eq, cdec_ne, beq_iff_eq, Bool.not_eq_true', pop_at, pop_left, z3]) ?_
      rintro _ rfl
      refine wp_cut (fun ρ => ρ = [.fro (mdD t), .fro (tmD t), .own false 1 (.lst (l.map pr)), .fro (pr u), .fro (mdD u), s5, s6]) (by unfold pr; try simp only [wpS_seq, wpS_next, wpS_if, wpS_ite, wpS_thn, wpS_ret, wpS_retO, wpS_drop, wpS_bad, wpS_nx, wpS_rt, wpS_sbad, wpS_ofO, wpS_frz', wpR_ok, wpR_bad, wpR_bind, wpR_ite, wpO_ok, wpO_bad, wpO_ite, wpO_toR, wpO_toR', wpO_toRO, wpX_ok, wpX_exc, wpX_bad, wpX_ite, wpX_ofD, wpX_noExc, wpO_ofD, wp_toRO1, wpR_noExc,
 sAsg, sAsgO, sOwnSet, sPar, putFro_if, putOwn_if, sto_no, sto_fro, sto_own, frz, dVar, dC, dOp, dUn, dLs, aNil, aCons, dB, asB, dAnd, dOr, dNot, dAndV, dOrV, dNotV, dIfE, dTru, ofB, dFr, dMove, dTup, dLsO, opLst, dSl, pNone, pSome, asI, dOwnIx, ownL, dOwnLen, dOwnSl, dAppend, dPop, dCall0, dCall1, DL.call1, dMeth0, isC, wp_make, List.append_nil, dFld, oFldN, dOwnFld, sOwnFld, sf_00, sf_11, sf_22, sf_33, sf_0, sf_1, sf_2, sf_3, ownI, dCatO, iLst, asL, iRg, asRg, iRg3, asRg3, sFor, sWhile, dComp, wipeR,
 i_add, i_op0, i_op, i_eq, i_ne, s_eq, s_ne, s_add, l_ix, t_ix, l_add, l_cat, i_int, b_int, i_abs, l_len, t_len, r_len, s_len, i_str, i_max, i_min, oNeg, atI_0, atI_1, atI_2, atI_3, atI_m1, ixNL_0, ixNL_1, ixNL_2, ixNL_3,
 get_0, get_1, get_2, get_3, get_4, get_5, get_6, get_7, get_8, get_9, set_0, set_1, set_2, set_3, set_4, set_5, set_6, set_7, set_8, set_9, isT_tup, isT_str, isT_int, isT_bool, isT_lst, isC_ok, Bool.not_true, Bool.not_false, ln_0, ln_1, ln_2, ln_3, ln_4, lm_0, lm_1, lm_2, lm_3, lm_4, lm_5, lm_6, Option.bind_some, Option.bind_none, true_and, and_true, eq_self, ioIs, ite_and, if_true, if_false, ite_true, ite_false, reduceIte, Bool.false_eq_true, reduceCtorEq, decide_eq_true_eq, cdec_eq, cdec_ne, beq_iff_eq, Bool.not_eq_true', z4]) ?_
      rintro _ rfl
      refine wp_cut (fun ρ => ρ = [.fro (mdD t), .fro (tmD t), .own false 1 (.lst (l.map pr)), .fro (pr u), .fro (mdD u), .fro (tmD u), s6]) (by unfold pr; try simp only [wpS_seq, wpS_next, wpS_if, wpS_ite, wpS_thn, wpS_ret, wpS_retO, wpS_drop, wpS_bad, wpS_nx, wpS_rt, wpS_sbad, wpS_ofO, wpS_frz', wpR_ok, wpR_bad, wpR_bind, wpR_ite, wpO_ok, wpO_bad, wpO_ite, wpO_toR, wpO_toR', wpO_toRO, wpX_ok, wpX_exc, wpX_bad, wpX_ite, wpX_ofD, wpX_noExc, wpO_ofD, wp_toRO1, wpR_noExc,
 sAsg, sAsgO, sOwnSet, sPar, putFro_if, putOwn_if, sto_no, sto_fro, sto_own, frz, dVar, dC, dOp, dUn, dLs, aNil, aCons, dB, asB, dAnd, dOr, dNot, dAndV, dOrV, dNotV, dIfE, dTru, ofB, dFr, dMove, dTup, dLsO, opLst, dSl, pNone, pSome, asI, dOwnIx, ownL, dOwnLen, dOwnSl, dAppend, dPop, dCall0, dCall1, DL.call1, dMeth0, isC, wp_make, List.append_nil, dFld, oFldN, dOwnFld, sOwnFld, sf_00, sf_11, sf_22, sf_33, sf_0, sf_1, sf_2, sf_3, ownI, dCatO, iLst, asL, iRg, asRg, iRg3, asRg3, sFor, sWhile, dComp, wipeR,
 i_add, i_op0, i_op, i_eq, i_ne, s_eq, s_ne, s_add, l_ix, t_ix, l_add, l_cat, i_int, b_int, i_abs, l_len, t_len, r_len, s_len, i_str, i_max, i_min, oNeg, atI_0, atI_1, atI_2, atI_3, atI_m1, ixNL_0, ixNL_1, ixNL_2, ixNL_3,
 get_0, get_1, get_2, get_3, get_4, get_5, get_6, get_7, get_8, get_9, set_0, set_1, set_2, set_3, set_4, set_5, set_6, set_7, set_8, set_9, isT_tup, isT_str, isT_int, isT_bool, isT_lst, isC_ok, Bool.not_true, Bool.not_false, ln_0, ln_1, ln_2, ln_3, ln_4, lm_0, lm_1, lm_2, lm_3, lm_4, lm_5, lm_6, Option.bind_some, Option.bind_none, true_and, and_true, eq_self, ioIs, ite_and, if_true, if_false, ite_true, ite_false, reduceIte, Bool.false_eq_true, reduceCtorEq, decide_eq_true_eq, cdec_eq, cdec_ne, beq_iff_eq, Bool.not_eq_true', z5]) ?_
      rintro _ rfl
      generalize mdD t = d0
      generalize tmD t = d1
      have lm : (List.map pr l).length ≤ 1000 := by rw [List.length_map]; exact hll
      have rgo : ∀ n : Int, 0 ≤ n → n < 10 → rgOk 1 n = true := fun n a b => rgOk_small (by decide) (by decide) a (by omega)
      have fin : ∀ us x3 x4 x5 x6, stoOk (some x3) = true → stoOk (some x4) = true → stoOk (some x5) = true → stoOk (some x6) = true → (∀ u ∈ us, TmOk u) → ms us < m → ms us ≤ 1000 → ∃ ts s3 s4 s5 s6, stoOk (some s3) = true ∧ stoOk (some s4) = true ∧ stoOk (some s5) = true ∧ stoOk (some s6) = true ∧ (∀ u ∈ ts, TmOk u) ∧ ms ts < m ∧ ms ts ≤ 1000 ∧ ([.fro d0, .fro d1, .own false 1 (.lst (us.map pr)), x3, x4, x5, x6] : Rho) = [.fro d0, .fro d1, .own false 1 (.lst (ts.map pr)), s3, s4, s5, s6] :=
        fun us x3 x4 x5 x6 a b c d e f g => ⟨us, x3, x4, x5, x6, a, b, c, d, e, f, g, rfl⟩
      clear c
      cases u with
      | «let» c =>
        have hw : wt (.let c) = 2 := rfl
        rw [hw] at hn hk
        unfold mdD tmD
        try simp only [wpS_seq, wpS_next, wpS_if, wpS_ite, wpS_thn, wpS_ret, wpS_retO, wpS_drop, wpS_bad, wpS_nx, wpS_rt, wpS_sbad, wpS_ofO, wpS_frz', wpR_ok, wpR_bad, wpR_bind, wpR_ite, wpO_ok, wpO_bad, wpO_ite, wpO_toR, wpO_toR', wpO_toRO, wpX_ok, wpX_exc, wpX_bad, wpX_ite, wpX_ofD, wpX_noExc, wpO_ofD, wp_toRO1, wpR_noExc,
 sAsg, sAsgO, sOwnSet, sPar, putFro_if, putOwn_if, sto_no, sto_fro, sto_own, frz, dVar, dC, dOp, dUn, dLs, aNil, aCons, dB, asB, dAnd, dOr, dNot, dAndV, dOrV, dNotV, dIfE, dTru, ofB, dFr, dMove, dTup, dLsO, opLst, dSl, pNone, pSome, asI, dOwnIx, ownL, dOwnLen, dOwnSl, dAppend, dPop, dCall0, dCall1, DL.call1, dMeth0, isC, wp_make, List.append_nil, dFld, oFldN, dOwnFld, sOwnFld, sf_00, sf_11, sf_22, sf_33, sf_0, sf_1, sf_2, sf_3, ownI, dCatO, iLst, asL, iRg, asRg, iRg3, asRg3, sFor, sWhile, dComp, wipeR,
 i_add, i_op0, i_op, i_eq, i_ne, s_eq, s_ne, s_add, l_ix, t_ix, l_add, l_cat, i_int, b_int, i_abs, l_len, t_len, r_len, s_len, i_str, i_max, i_min, oNeg, atI_0, atI_1, atI_2, atI_3, atI_m1, ixNL_0, ixNL_1, ixNL_2, ixNL_3,
 get_0, get_1, get_2, get_3, get_4, get_5, get_6, get_7, get_8, get_9, set_0, set_1, set_2, set_3, set_4, set_5, set_6, set_7, set_8, set_9, isT_tup, isT_str, isT_int, isT_bool, isT_lst, isC_ok, Bool.not_true, Bool.not_false, ln_0, ln_1, ln_2, ln_3, ln_4, lm_0, lm_1, lm_2, lm_3, lm_4, lm_5, lm_6, Option.bind_some, Option.bind_none, true_and, and_true, eq_self, ioIs, ite_and, if_true, if_false, ite_true, ite_false, reduceIte, Bool.false_eq_true, reduceCtorEq, decide_eq_true_eq, cdec_eq, cdec_ne, beq_iff_eq, Bool.not_eq_true', tg_number_letter, tg_number_plus, tg_number_row, tg_number_star, tg_letter_number, tg_letter_plus, tg_letter_row, tg_letter_star, tg_plus_number, tg_plus_letter, tg_plus_row, tg_plus_star, tg_row_number, tg_row_letter, tg_row_plus, tg_row_star, tg_star_number, tg_star_letter, tg_star_plus, tg_star_row, ne_eq, not_true, beq_self_eq_true]
        exact fin l _ _ _ _ rfl rfl rfl z6 hl (by omega) (by omega)
      | num a b =>
        have hw : wt (.num a b) = 2 := rfl
        rw [hw] at hn hk
        unfold mdD tmD
        try simp only [wpS_seq, wpS_next, wpS_if, wpS_ite, wpS_thn, wpS_ret, wpS_retO, wpS_drop, wpS_bad, wpS_nx, wpS_rt, wpS_sbad, wpS_ofO, wpS_frz', wpR_ok, wpR_bad, wpR_bind, wpR_ite, wpO_ok, wpO_bad, wpO_ite, wpO_toR, wpO_toR', wpO_toRO, wpX_ok, wpX_exc, wpX_bad, wpX_ite, wpX_ofD, wpX_noExc, wpO_ofD, wp_toRO1, wpR_noExc,
 sAsg, sAsgO, sOwnSet, sPar, putFro_if, putOwn_if, sto_no, sto_fro, sto_own, frz, dVar, dC, dOp, dUn, dLs, aNil, aCons, dB, asB, dAnd, dOr, dNot, dAndV, dOrV, dNotV, dIfE, dTru, ofB, dFr, dMove, dTup, dLsO, opLst, dSl, pNone, pSome, asI, dOwnIx, ownL, dOwnLen, dOwnSl, dAppend, dPop, dCall0, dCall1, DL.call1, dMeth0, isC, wp_make, List.append_nil, dFld, oFldN, dOwnFld, sOwnFld, sf_00, sf_11, sf_22, sf_33, sf_0, sf_1, sf_2, sf_3, ownI, dCatO, iLst, asL, iRg, asRg, iRg3, asRg3, sFor, sWhile, dComp, wipeR,
 i_add, i_op0, i_op, i_eq, i_ne, s_eq, s_ne, s_add, l_ix, t_ix, l_add, l_cat, i_int, b_int, i_abs, l_len, t_len, r_len, s_len, i_str, i_max, i_min, oNeg, atI_0, atI_1, atI_2, atI_3, atI_m1, ixNL_0, ixNL_1, ixNL_2, ixNL_3,
 get_0, get_1, get_2, get_3, get_4, get_5, get_6, get_7, get_8, get_9, set_0, set_1, set_2, set_3, set_4, set_5, set_6, set_7, set_8, set_9, isT_tup, isT_str, isT_int, isT_bool, isT_lst, isC_ok, Bool.not_true, Bool.not_false, ln_0, ln_1, ln_2, ln_3, ln_4, lm_0, lm_1, lm_2, lm_3, lm_4, lm_5, lm_6, Option.bind_some, Option.bind_none, true_and, and_true, eq_self, ioIs, ite_and, if_true, if_false, ite_true, ite_false, reduceIte, Bool.false_eq_true, reduceCtorEq, decide_eq_true_eq, cdec_eq, cdec_ne, beq_iff_eq, Bool.not_eq_true', tg_number_letter, tg_number_plus, tg_number_row, tg_number_star, tg_letter_number, tg_letter_plus, tg_letter_row, tg_letter_star, tg_plus_number, tg_plus_letter, tg_plus_row, tg_plus_star, tg_row_number, tg_row_letter, tg_row_plus, tg_row_star, tg_star_number, tg_star_letter, tg_star_plus, tg_star_row, ne_eq, not_true, beq_self_eq_true]
        refine same_wp ?_
        try simp only [wpS_seq, wpS_next, wpS_if, wpS_ite, wpS_thn, wpS_ret, wpS_retO, wpS_drop, wpS_bad, wpS_nx, wpS_rt, wpS_sbad, wpS_ofO, wpS_frz', wpR_ok, wpR_bad, wpR_bind, wpR_ite, wpO_ok, wpO_bad, wpO_ite, wpO_toR, wpO_toR', wpO_toRO, wpX_ok, wpX_exc, wpX_bad, wpX_ite, wpX_ofD, wpX_noExc, wpO_ofD, wp_toRO1, wpR_noExc,
 sAsg, sAsgO, sOwnSet, sPar, putFro_if, putOwn_if, sto_no, sto_fro, sto_own, frz, dVar, dC, dOp, dUn, dLs, aNil, aCons, dB, asB, dAnd, dOr, dNot, dAndV, dOrV, dNotV, dIfE, dTru, ofB, dFr, dMove, dTup, dLsO, opLst, dSl, pNone, pSome, asI, dOwnIx, ownL, dOwnLen, dOwnSl, dAppend, dPop, dCall0, dCall1, DL.call1, dMeth0, isC, wp_make, List.append_nil, dFld, oFldN, dOwnFld, sOwnFld, sf_00, sf_11, sf_22, sf_33, sf_0, sf_1, sf_2, sf_3, ownI, dCatO, iLst, asL, iRg, asRg, iRg3, asRg3, sFor, sWhile, dComp, wipeR,
 i_add, i_op0, i_op, i_eq, i_ne, s_eq, s_ne, s_add, l_ix, t_ix, l_add, l_cat, i_int, b_int, i_abs, l_len, t_len, r_len, s_len, i_str, i_max, i_min, oNeg, atI_0, atI_1, atI_2, atI_3, atI_m1, ixNL_0, ixNL_1, ixNL_2, ixNL_3,
 get_0, get_1, get_2, get_3, get_4, get_5, get_6, get_7, get_8, get_9, set_0, set_1, set_2, set_3, set_4, set_5, set_6, set_7, set_8, set_9, isT_tup, isT_str, isT_int, isT_bool, isT_lst, isC_ok, Bool.not_true, Bool.not_false, ln_0, ln_1, ln_2, ln_3, ln_4, lm_0, lm_1, lm_2, lm_3, lm_4, lm_5, lm_6, Option.bind_some, Option.bind_none, true_and, and_true, eq_self, ioIs, ite_and, if_true, if_false, ite_true, ite_false, reduceIte, Bool.false_eq_true, reduceCtorEq, decide_eq_true_eq, cdec_eq, cdec_ne, beq_iff_eq, Bool.not_eq_true']
        exact fin l _ _ _ _ rfl rfl rfl z6 hl (by omega) (by omega)
      | star v =>
        have hw : wt (.star v) = wt v + 1 := rfl
        have := wt_two v
        rw [hw] at hn hk
        unfold mdD tmD
        try simp only [wpS_seq, wpS_next, wpS_if, wpS_ite, wpS_thn, wpS_ret, wpS_retO, wpS_drop, wpS_bad, wpS_nx, wpS_rt, wpS_sbad, wpS_ofO, wpS_frz', wpR_ok, wpR_bad, wpR_bind, wpR_ite, wpO_ok, wpO_bad, wpO_ite, wpO_toR, wpO_toR', wpO_toRO, wpX_ok, wpX_exc, wpX_bad, wpX_ite, wpX_ofD, wpX_noExc, wpO_ofD, wp_toRO1, wpR_noExc,
 sAsg, sAsgO, sOwnSet, sPar, putFro_if, putOwn_if, sto_no, sto_fro, sto_own, frz, dVar, dC, dOp, dUn, dLs, aNil, aCons, dB, asB, dAnd, dOr, dNot, dAndV, dOrV, dNotV, dIfE, dTru, ofB, dFr, dMove, dTup, dLsO, opLst, dSl, pNone, pSome, asI, dOwnIx, ownL, dOwnLen, dOwnSl, dAppend, dPop, dCall0, dCall1, DL.call1, dMeth0, isC, wp_make, List.append_nil, dFld, oFldN, dOwnFld, sOwnFld, sf_00, sf_11, sf_22, sf_33, sf_0, sf_1, sf_2, sf_3, ownI, dCatO, iLst, asL, iRg, asRg, iRg3, asRg3, sFor, sWhile, dComp, wipeR,
 i_add, i_op0, i_op, i_eq, i_ne, s_eq, s_ne, s_add, l_ix, t_ix, l_add, l_cat, i_int, b_int, i_abs, l_len, t_len, r_len, s_len, i_str, i_max, i_min, oNeg, atI_0, atI_1, atI_2, atI_3, atI_m1, ixNL_0, ixNL_1, ixNL_2, ixNL_3,
 get_0, get_1, get_2, get_3, get_4, get_5, get_6, get_7, get_8, get_9, set_0, set_1, set_2, set_3, set_4, set_5, set_6, set_7, set_8, set_9, isT_tup, isT_str, isT_int, isT_bool, isT_lst, isC_ok, Bool.not_true, Bool.not_false, ln_0, ln_1, ln_2, ln_3, ln_4, lm_0, lm_1, lm_2, lm_3, lm_4, lm_5, lm_6, Option.bind_some, Option.bind_none, true_and, and_true, eq_self, ioIs, ite_and, if_true, if_false, ite_true, ite_false, reduceIte, Bool.false_eq_true, reduceCtorEq, decide_eq_true_eq, cdec_eq, cdec_ne, beq_iff_eq, Bool.not_eq_true', tg_number_letter, tg_number_plus, tg_number_row, tg_number_star, tg_letter_number, tg_letter_plus, tg_letter_row, tg_letter_star, tg_plus_number, tg_plus_letter, tg_plus_row, tg_plus_star, tg_row_number, tg_row_letter, tg_row_plus, tg_row_star, tg_star_number, tg_star_letter, tg_star_plus, tg_star_row, ne_eq, not_true, beq_self_eq_true, rgo 2 (by decide) (by decide), rg12, wp_for_cons, wp_for_nil, z6]
        refine ⟨lt_most (by omega), ?_⟩
        have := fin (l ++ [v]) (.fro (pr (.star v))) (.fro (.tup [.str "star", mdD v])) (.fro (.tup [.str "star", tmD v])) (.fro (.int 1)) rfl rfl rfl rfl (fun u hu' => by
          rcases List.mem_append.mp hu' with h | h
          · exact hl u h
          · rw [List.mem_singleton.mp h]; exact hu) (by rw [ms_app, ms_one]; omega) (by rw [ms_app, ms_one]; omega)
        rw [List.map_append] at this
        exact this
      | plus s v =>
        have hw : wt (.plus s v) = wt s + wt v := rfl
        have := wt_two s
        have := wt_two v
        rw [hw] at hn hk
        unfold mdD tmD
        try simp only [wpS_seq, wpS_next, wpS_if, wpS_ite, wpS_thn, wpS_ret, wpS_retO, wpS_drop, wpS_bad, wpS_nx, wpS_rt, wpS_sbad, wpS_ofO, wpS_frz', wpR_ok, wpR_bad, wpR_bind, wpR_ite, wpO_ok, wpO_bad, wpO_ite, wpO_toR, wpO_toR', wpO_toRO, wpX_ok, wpX_exc, wpX_bad, wpX_ite, wpX_ofD, wpX_noExc, wpO_ofD, wp_toRO1, wpR_noExc,
 sAsg, sAsgO, sOwnSet, sPar, putFro_if, putOwn_if, sto_no, sto_fro, sto_own, frz, dVar, dC, dOp, dUn, dLs, aNil, aCons, dB, asB, dAnd, dOr, dNot, dAndV, dOrV, dNotV, dIfE, dTru, ofB, dFr, dMove, dTup, dLsO, opLst, dSl, pNone, pSome, asI, dOwnIx, ownL, dOwnLen, dOwnSl, dAppend, dPop, dCall0, dCall1, DL.call1, dMeth0, isC, wp_make, List.append_nil, dFld, oFldN, dOwnFld, sOwnFld, sf_00, sf_11, sf_22, sf_33, sf_0, sf_1, sf_2, sf_3, ownI, dCatO, iLst, asL, iRg, asRg, iRg3, asRg3, sFor, sWhile, dComp, wipeR,
 i_add, i_op0, i_op, i_eq, i_ne, s_eq, s_ne, s_add, l_ix, t_ix, l_add, l_cat, i_int, b_int, i_abs, l_len, t_len, r_len, s_len, i_str, i_max, i_min, oNeg, atI_0, atI_1, atI_2, atI_3, atI_m1, ixNL_0, ixNL_1, ixNL_2, ixNL_3,
 get_0, get_1, get_2, get_3, get_4, get_5, get_6, get_7, get_8, get_9, set_0, set_1, set_2, set_3, set_4, set_5, set_6, set_7, set_8, set_9, isT_tup, isT_str, isT_int, isT_bool, isT_lst, isC_ok, Bool.not_true, Bool.not_false, ln_0, ln_1, ln_2, ln_3, ln_4, lm_0, lm_1, lm_2, lm_3, lm_4, lm_5, lm_6, Option.bind_some, Option.bind_none, true_and, and_true, eq_self, ioIs, ite_and, if_true, if_false, ite_true, ite_false, reduceIte, Bool.false_eq_true, reduceCtorEq, decide_eq_true_eq, cdec_eq, cdec_ne, beq_iff_eq, Bool.not_eq_true', tg_number_letter, tg_number_plus, tg_number_row, tg_number_star, tg_letter_number, tg_letter_plus, tg_letter_row, tg_letter_star, tg_plus_number, tg_plus_letter, tg_plus_row, tg_plus_star, tg_row_number, tg_row_letter, tg_row_plus, tg_row_star, tg_star_number, tg_star_letter, tg_star_plus, tg_star_row, ne_eq, not_true, beq_self_eq_true, rgo 3 (by decide) (by decide), rg13, wp_for_cons, wp_for_nil, z6]
        refine ⟨lt_most (by omega), lt_most (by rw [List.length_append, List.length_singleton]; omega), ?_⟩
        have := fin (l ++ [s, v]) (.fro (pr (.plus s v))) (.fro (.tup [.str "plus", mdD s, mdD v])) (.fro (.tup [.str "plus", tmD s, tmD v])) (.fro (.int 2)) rfl rfl rfl rfl (fun u hu' => by
          rcases List.mem_append.mp hu' with h | h
          · exact hl u h
          · rcases List.mem_cons.mp h with rfl | h
            · exact hu.1
            · rw [List.mem_singleton.mp h]; exact hu.2) (by rw [ms_app, show [s, v] = [s] ++ [v] from rfl, ms_app, ms_one, ms_one]; omega) (by rw [ms_app, show [s, v] = [s] ++ [v] from rfl, ms_app, ms_one, ms_one]; omega)
        rw [List.map_append, show List.map pr [s, v] = [pr s] ++ [pr v] from rfl, ← List.append_assoc] at this
        exact this
      | row s v =>
        have hw : wt (.row s v) = wt s + wt v := rfl
        have := wt_two s
        have := wt_two v
        rw [hw] at hn hk
        unfold mdD tmD
        try simp only [wpS_seq, wpS_next, wpS_if, wpS_ite, wpS_thn, wpS_ret, wpS_retO, wpS_drop, wpS_bad, wpS_nx, wpS_rt, wpS_sbad, wpS_ofO, wpS_frz', wpR_ok, wpR_bad, wpR_bind, wpR_ite, wpO_ok, wpO_bad, wpO_ite, wpO_toR, wpO_toR', wpO_toRO, wpX_ok, wpX_exc, wpX_bad, wpX_ite, wpX_ofD, wpX_noExc, wpO_ofD, wp_toRO1, wpR_noExc,
 sAsg, sAsgO, sOwnSet, sPar, putFro_if, putOwn_if, sto_no, sto_fro, sto_own, frz, dVar, dC, dOp, dUn, dLs, aNil, aCons, dB, asB, dAnd, dOr, dNot, dAndV, dOrV, dNotV, dIfE, dTru, ofB, dFr, dMove, dTup, dLsO, opLst, dSl, pNone, pSome, asI, dOwnIx, ownL, dOwnLen, dOwnSl, dAppend, dPop, dCall0, dCall1, DL.call1, dMeth0, isC, wp_make, List.append_nil, dFld, oFldN, dOwnFld, sOwnFld, sf_00, sf_11, sf_22, sf_33, sf_0, sf_1, sf_2, sf_3, ownI, dCatO, iLst, asL, iRg, asRg, iRg3, asRg3, sFor, sWhile, dComp, wipeR,
 i_add, i_op0, i_op, i_eq, i_ne, s_eq, s_ne, s_add, l_ix, t_ix, l_add, l_cat, i_int, b_int, i_abs, l_len, t_len, r_len, s_len, i_str, i_max, i_min, oNeg, atI_0, atI_1, atI_2, atI_3, atI_m1, ixNL_0, ixNL_1, ixNL_2, ixNL_3,
 get_0, get_1, get_2, get_3, get_4, get_5, get_6, get_7, get_8, get_9, set_0, set_1, set_2, set_3, set_4, set_5, set_6, set_7, set_8, set_9, isT_tup, isT_str, isT_int, isT_bool, isT_lst, isC_ok, Bool.not_true, Bool.not_false, ln_0, ln_1, ln_2, ln_3, ln_4, lm_0, lm_1, lm_2, lm_3, lm_4, lm_5, lm_6, Option.bind_some, Option.bind_none, true_and, and_true, eq_self, ioIs, ite_and, if_true, if_false, ite_true, ite_false, reduceIte, Bool.false_eq_true, reduceCtorEq, decide_eq_true_eq, cdec_eq, cdec_ne, beq_iff_eq, Bool.not_eq_true', tg_number_letter, tg_number_plus, tg_number_row, tg_number_star, tg_letter_number, tg_letter_plus, tg_letter_row, tg_letter_star, tg_plus_number, tg_plus_letter, tg_plus_row, tg_plus_star, tg_row_number, tg_row_letter, tg_row_plus, tg_row_star, tg_star_number, tg_star_letter, tg_star_plus, tg_star_row, ne_eq, not_true, beq_self_eq_true, rgo 3 (by decide) (by decide), rg13, wp_for_cons, wp_for_nil, z6]
        refine ⟨lt_most (by omega), lt_most (by rw [List.length_append, List.length_singleton]; omega), ?_⟩
        have := fin (l ++ [s, v]) (.fro (pr (.row s v))) (.fro (.tup [.str "row", mdD s, mdD v])) (.fro (.tup [.str "row", tmD s, tmD v])) (.fro (.int 2)) rfl rfl rfl rfl (fun u hu' => by
          rcases List.mem_append.mp hu' with h | h
          · exact hl u h
          · rcases List.mem_cons.mp h with rfl | h
            · exact hu.1
            · rw [List.mem_singleton.mp h]; exact hu.2) (by rw [ms_app, show [s, v] = [s] ++ [v] from rfl, ms_app, ms_one, ms_one]; omega) (by rw [ms_app, show [s, v] = [s] ++ [v] from rfl, ms_app, ms_one, ms_one]; omega)
        rw [List.map_append, show List.map pr [s, v] = [pr s] ++ [pr v] from rfl, ← List.append_assoc] at this
        exact this
    · rw [if_neg (by rw [cdec_eq]; exact c)]
      trivial
theorem law_wp (ns : List Int) (hl : ns.length ≤ 63) {Z : Nat → D → Prop} : (fn_law [.scr ns]).wpX (fun d => d = .bl true) Z := by
  unfold fn_law bd_law
  rw [wp_fn0, show initR 8 [.scr ns] = [.fro (.scr ns), .no, .no, .no, .no, .no, .no, .no] from rfl]
  refine wp_cut (fun ρ => ∃ f, FdOk f ∧ ρ = [.fro (.scr ns), .own false 1 (fdD f), .no, .no, .no, .no, .no, .no]) ?_ ?_
  · try simp only [wpS_seq, wpS_next, wpS_if, wpS_ite, wpS_thn, wpS_ret, wpS_retO, wpS_drop, wpS_bad, wpS_nx, wpS_rt, wpS_sbad, wpS_ofO, wpS_frz', wpR_ok, wpR_bad, wpR_bind, wpR_ite, wpO_ok, wpO_bad, wpO_ite, wpO_toR, wpO_toR', wpO_toRO, wpX_ok, wpX_exc, wpX_bad, wpX_ite, wpX_ofD, wpX_noExc, wpO_ofD, wp_toRO1, wpR_noExc,
 sAsg, sAsgO, sOwnSet, sPar, putFro_if, putOwn_if, sto_no, sto_fro, sto_own, frz, dVar, dC, dOp, dUn, dLs, aNil, aCons, dB, asB, dAnd, dOr, dNot, dAndV, dOrV, dNotV, dIfE, dTru, ofB, dFr, dMove, dTup, dLsO, opLst, dSl, pNone, pSome, asI, dOwnIx, ownL, dOwnLen, dOwnSl, dAppend, dPop, dCall0, dCall1, DL.call1, dMeth0, isC, wp_make, List.append_nil, dFld, oFldN, dOwnFld, sOwnFld, sf_00, sf_11, sf_22, sf_33, sf_0, sf_1, sf_2, sf_3, ownI, dCatO, iLst, asL, iRg, asRg, iRg3, asRg3, sFor, sWhile, dComp, wipeR,
 i_add, i_op0, i_op, i_eq, i_ne, s_eq, s_ne, s_add, l_ix, t_ix, l_add, l_cat, i_int, b_int, i_abs, l_len, t_len, r_len, s_len, i_str, i_max, i_min, oNeg, atI_0, atI_1, atI_2, atI_3, atI_m1, ixNL_0, ixNL_1, ixNL_2, ixNL_3,
 get_0, get_1, get_2, get_3, get_4, get_5, get_6, get_7, get_8, get_9, set_0, set_1, set_2, set_3, set_4, set_5, set_6, set_7, set_8, set_9, isT_tup, isT_str, isT_int, isT_bool, isT_lst, isC_ok, Bool.not_true, Bool.not_false, ln_0, ln_1, ln_2, ln_3, ln_4, lm_0, lm_1, lm_2, lm_3, lm_4, lm_5, lm_6, Option.bind_some, Option.bind_none, true_and, and_true, eq_self, ioIs, ite_and, if_true, if_false, ite_true, ite_false, reduceIte, Bool.false_eq_true, reduceCtorEq, decide_eq_true_eq, cdec_eq, cdec_ne, beq_iff_eq, Bool.not_eq_true']
    refine feed_wp ns hl fun f hf => ?_
    try simp only [wpS_seq, wpS_next, wpS_if, wpS_ite, wpS_thn, wpS_ret, wpS_retO, wpS_drop, wpS_bad, wpS_nx, wpS_rt, wpS_sbad, wpS_ofO, wpS_frz', wpR_ok, wpR_bad, wpR_bind, wpR_ite, wpO_ok, wpO_bad, wpO_ite, wpO_toR, wpO_toR', wpO_toRO, wpX_ok, wpX_exc, wpX_bad, wpX_ite, wpX_ofD, wpX_noExc, wpO_ofD, wp_toRO1, wpR_noExc,
 sAsg, sAsgO, sOwnSet, sPar, putFro_if, putOwn_if, sto_no, sto_fro, sto_own, frz, dVar, dC, dOp, dUn, dLs, aNil, aCons, dB, asB, dAnd, dOr, dNot, dAndV, dOrV, dNotV, dIfE, dTru, ofB, dFr, dMove, dTup, dLsO, opLst, dSl, pNone, pSome, asI, dOwnIx, ownL, dOwnLen, dOwnSl, dAppend, dPop, dCall0, dCall1, DL.call1, dMeth0, isC, wp_make, List.append_nil, dFld, oFldN, dOwnFld, sOwnFld, sf_00, sf_11, sf_22, sf_33, sf_0, sf_1, sf_2, sf_3, ownI, dCatO, iLst, asL, iRg, asRg, iRg3, asRg3, sFor, sWhile, dComp, wipeR,
 i_add, i_op0, i_op, i_eq, i_ne, s_eq, s_ne, s_add, l_ix, t_ix, l_add, l_cat, i_int, b_int, i_abs, l_len, t_len, r_len, s_len, i_str, i_max, i_min, oNeg, atI_0, atI_1, atI_2, atI_3, atI_m1, ixNL_0, ixNL_1, ixNL_2, ixNL_3,
 get_0, get_1, get_2, get_3, get_4, get_5, get_6, get_7, get_8, get_9, set_0, set_1, set_2, set_3, set_4, set_5, set_6, set_7, set_8, set_9, isT_tup, isT_str, isT_int, isT_bool, isT_lst, isC_ok, Bool.not_true, Bool.not_false, ln_0, ln_1, ln_2, ln_3, ln_4, lm_0, lm_1, lm_2, lm_3, lm_4, lm_5, lm_6, Option.bind_some, Option.bind_none, true_and, and_true, eq_self, ioIs, ite_and, if_true, if_false, ite_true, ite_false, reduceIte, Bool.false_eq_true, reduceCtorEq, decide_eq_true_eq, cdec_eq, cdec_ne, beq_iff_eq, Bool.not_eq_true']
    exact ⟨f, hf, rfl⟩
  · rintro _ ⟨f, hf, rfl⟩
    refine wp_cut (fun ρ => ρ = [.fro (.scr ns), .own false 1 (fdD f), .own false 1 (.lst []), .no, .no, .no, .no, .no]) (by try simp only [wpS_seq, wpS_next, wpS_if, wpS_ite, wpS_thn, wpS_ret, wpS_retO, wpS_drop, wpS_bad, wpS_nx, wpS_rt, wpS_sbad, wpS_ofO, wpS_frz', wpR_ok, wpR_bad, wpR_bind, wpR_ite, wpO_ok, wpO_bad, wpO_ite, wpO_toR, wpO_toR', wpO_toRO, wpX_ok, wpX_exc, wpX_bad, wpX_ite, wpX_ofD, wpX_noExc, wpO_ofD, wp_toRO1, wpR_noExc,
 sAsg, sAsgO, sOwnSet, sPar, putFro_if, putOwn_if, sto_no, sto_fro, sto_own, frz, dVar, dC, dOp, dUn, dLs, aNil, aCons, dB, asB, dAnd, dOr, dNot, dAndV, dOrV, dNotV, dIfE, dTru, ofB, dFr, dMove, dTup, dLsO, opLst, dSl, pNone, pSome, asI, dOwnIx, ownL, dOwnLen, dOwnSl, dAppend, dPop, dCall0, dCall1, DL.call1, dMeth0, isC, wp_make, List.append_nil, dFld, oFldN, dOwnFld, sOwnFld, sf_00, sf_11, sf_22, sf_33, sf_0, sf_1, sf_2, sf_3, ownI, dCatO, iLst, asL, iRg, asRg, iRg3, asRg3, sFor, sWhile, dComp, wipeR,
 i_add, i_op0, i_op, i_eq, i_ne, s_eq, s_ne, s_add, l_ix, t_ix, l_add, l_cat, i_int, b_int, i_abs, l_len, t_len, r_len, s_len, i_str, i_max, i_min, oNeg, atI_0, atI_1, atI_2, atI_3, atI_m1, ixNL_0, ixNL_1, ixNL_2, ixNL_3,
 get_0, get_1, get_2, get_3, get_4, get_5, get_6, get_7, get_8, get_9, set_0, set_1, set_2, set_3, set_4, set_5, set_6, set_7, set_8, set_9, isT_tup, isT_str, isT_int, isT_bool, isT_lst, isC_ok, Bool.not_true, Bool.not_false, ln_0, ln_1, ln_2, ln_3, ln_4, lm_0, lm_1, lm_2, lm_3, lm_4, lm_5, lm_6, Option.bind_some, Option.bind_none, true_and, and_true, eq_self, ioIs, ite_and, if_true, if_false, ite_true, ite_false, reduceIte, Bool.false_eq_true, reduceCtorEq, decide_eq_true_eq, cdec_eq, cdec_ne, beq_iff_eq, Bool.not_eq_true']) ?_
    rintro _ rfl
    refine wp_cut (fun ρ => ∃ s t x, TmOk s ∧ wt s ≤ 60 ∧ TmOk t ∧ wt t ≤ 60 ∧ ρ = [.fro (.scr ns), x, .own false 1 (.lst [.lst [tmD s, mdD s, .str (wr s)], .lst [tmD t, mdD t, .str (wr t)]]), .fro (.int 1), .fro (tmD t), .no, .no, .no]) ?_ ?_
    · have step : ∀ (f : Fd) (xs : List D) (j : Int) (s3 s4 : Sl) (K : Ks), FdOk f → stoOk (some s3) = true → stoOk (some s4) = true → xs.length < 10 → (∀ t f', TmOk t → wt t ≤ 60 → FdOk f' → K.n [.fro (.scr ns), .own false 1 (fdD f'), .own false 1 (.lst (xs ++ [.lst [tmD t, mdD t, .str (wr t)]])), .fro (.int j), .fro (tmD t), .no, .no, .no]) →
          (sSeq (sAsg 4 (dFr (dCall1 0 1 1 fn_law_term (aNil)))) (sDrop (dAppend 2 (dFr (dLsO opLst (aCons (dVar 4) (aCons (dFr (dCall0 0 (fn_law_made 60) (aCons (dVar 4) (aNil)))) (aCons (dFr (dCall0 0 (fn_law_write 60) (aCons (dVar 4) (aNil)))) (aNil)))))))) ([.fro (.scr ns), .own false 1 (fdD f), .own false 1 (.lst xs), .fro (.int j), s4, .no, .no, .no])).wp K := by
        intro f xs j s3 s4 K h z3 z4 hx k
        refine wp_cut (fun ρ => ∃ t f', TmOk t ∧ wt t ≤ 60 ∧ FdOk f' ∧ ρ = [.fro (.scr ns), .own false 1 (fdD f'), .own false 1 (.lst xs), .fro (.int j), .fro (tmD t), .no, .no, .no]) ?_ ?_
        · try simp only [wpS_seq, wpS_next, wpS_if, wpS_ite, wpS_thn, wpS_ret, wpS_retO, wpS_drop, wpS_bad, wpS_nx, wpS_rt, wpS_sbad, wpS_ofO, wpS_frz', wpR_ok, wpR_bad, wpR_bind, wpR_ite, wpO_ok, wpO_bad, wpO_ite, wpO_toR, wpO_toR', wpO_toRO, wpX_ok, wpX_exc, wpX_bad, wpX_ite, wpX_ofD, wpX_noExc, wpO_ofD, wp_toRO1, wpR_noExc,
 sAsg, sAsgO, sOwnSet, sPar, putFro_if, putOwn_if, sto_no, sto_fro, sto_own, frz, dVar, dC, dOp, dUn, dLs, aNil, aCons, dB, asB, dAnd, dOr, dNot, dAndV, dOrV, dNotV, dIfE, dTru, ofB, dFr, dMove, dTup, dLsO, opLst, dSl, pNone, pSome, asI, dOwnIx, ownL, dOwnLen, dOwnSl, dAppend, dPop, dCall0, dCall1, DL.call1, dMeth0, isC, wp_make, List.append_nil, dFld, oFldN, dOwnFld, sOwnFld, sf_00, sf_11, sf_22, sf_33, sf_0, sf_1, sf_2, sf_3, ownI, dCatO, iLst, asL, iRg, asRg, iRg3, asRg3, sFor, sWhile, dComp, wipeR,
 i_add, i_op0, i_op, i_eq, i_ne, s_eq, s_ne, s_add, l_ix, t_ix, l_add, l_cat, i_int, b_int, i_abs, l_len, t_len, r_len, s_len, i_str, i_max, i_min, oNeg, atI_0, atI_1, atI_2, atI_3, atI_m1, ixNL_0, ixNL_1, ixNL_2, ixNL_3,
 get_0, get_1, get_2, get_3, get_4, get_5, get_6, get_7, get_8, get_9, set_0, set_1, set_2, set_3, set_4, set_5, set_6, set_7, set_8, set_9, isT_tup, isT_str, isT_int, isT_bool, isT_lst, isC_ok, Bool.not_true, Bool.not_false, ln_0, ln_1, ln_2, ln_3, ln_4, lm_0, lm_1, lm_2, lm_3, lm_4, lm_5, lm_6, Option.bind_some, Option.bind_none, true_and, and_true, eq_self, ioIs, ite_and, if_true, if_false, ite_true, ite_false, reduceIte, Bool.false_eq_true, reduceCtorEq, decide_eq_true_eq, cdec_eq, cdec_ne, beq_iff_eq, Bool.not_eq_true']
          refine term_wp h fun t f' ok h60 h' => ?_
          try simp only [wpS_seq, wpS_next, wpS_if, wpS_ite, wpS_thn, wpS_ret, wpS_retO, wpS_drop, wpS_bad, wpS_nx, wpS_rt, wpS_sbad, wpS_ofO, wpS_frz', wpR_ok, wpR_bad, wpR_bind, wpR_ite, wpO_ok, wpO_bad, wpO_ite, wpO_toR, wpO_toR', wpO_toRO, wpX_ok, wpX_exc, wpX_bad, wpX_ite, wpX_ofD, wpX_noExc, wpO_ofD, wp_toRO1, wpR_noExc,
 sAsg, sAsgO, sOwnSet, sPar, putFro_if, putOwn_if, sto_no, sto_fro, sto_own, frz, dVar, dC, dOp, dUn, dLs, aNil, aCons, dB, asB, dAnd, dOr, dNot, dAndV, dOrV, dNotV, dIfE, dTru, ofB, dFr, dMove, dTup, dLsO, opLst, dSl, pNone, pSome, asI, dOwnIx, ownL, dOwnLen, dOwnSl, dAppend, dPop, dCall0, dCall1, DL.call1, dMeth0, isC, wp_make, List.append_nil, dFld, oFldN, dOwnFld, sOwnFld, sf_00, sf_11, sf_22, sf_33, sf_0, sf_1, sf_2, sf_3, ownI, dCatO, iLst, asL, iRg, asRg, iRg3, asRg3, sFor, sWhile, dComp, wipeR,
 i_add, i_op0, i_op, i_eq, i_ne, s_eq, s_ne, s_add, l_ix, t_ix, l_add, l_cat, i_int, b_int, i_abs, l_len, t_len, r_len, s_len, i_str, i_max, i_min, oNeg, atI_0, atI_1, atI_2, atI_3, atI_m1, ixNL_0, ixNL_1, ixNL_2, ixNL_3,
 get_0, get_1, get_2, get_3, get_4, get_5, get_6, get_7, get_8, get_9, set_0, set_1, set_2, set_3, set_4, set_5, set_6, set_7, set_8, set_9, isT_tup, isT_str, isT_int, isT_bool, isT_lst, isC_ok, Bool.not_true, Bool.not_false, ln_0, ln_1, ln_2, ln_3, ln_4, lm_0, lm_1, lm_2, lm_3, lm_4, lm_5, lm_6, Option.bind_some, Option.bind_none, true_and, and_true, eq_self, ioIs, ite_and, if_true, if_false, ite_true, ite_false, reduceIte, Bool.false_eq_true, reduceCtorEq, decide_eq_true_eq, cdec_eq, cdec_ne, beq_iff_eq, Bool.not_eq_true', z4]
          exact ⟨t, f', ok, h60, h', rfl⟩
        · rintro _ ⟨t, f', ok, h60, h', rfl⟩
          try simp only [wpS_seq, wpS_next, wpS_if, wpS_ite, wpS_thn, wpS_ret, wpS_retO, wpS_drop, wpS_bad, wpS_nx, wpS_rt, wpS_sbad, wpS_ofO, wpS_frz', wpR_ok, wpR_bad, wpR_bind, wpR_ite, wpO_ok, wpO_bad, wpO_ite, wpO_toR, wpO_toR', wpO_toRO, wpX_ok, wpX_exc, wpX_bad, wpX_ite, wpX_ofD, wpX_noExc, wpO_ofD, wp_toRO1, wpR_noExc,
 sAsg, sAsgO, sOwnSet, sPar, putFro_if, putOwn_if, sto_no, sto_fro, sto_own, frz, dVar, dC, dOp, dUn, dLs, aNil, aCons, dB, asB, dAnd, dOr, dNot, dAndV, dOrV, dNotV, dIfE, dTru, ofB, dFr, dMove, dTup, dLsO, opLst, dSl, pNone, pSome, asI, dOwnIx, ownL, dOwnLen, dOwnSl, dAppend, dPop, dCall0, dCall1, DL.call1, dMeth0, isC, wp_make, List.append_nil, dFld, oFldN, dOwnFld, sOwnFld, sf_00, sf_11, sf_22, sf_33, sf_0, sf_1, sf_2, sf_3, ownI, dCatO, iLst, asL, iRg, asRg, iRg3, asRg3, sFor, sWhile, dComp, wipeR,
 i_add, i_op0, i_op, i_eq, i_ne, s_eq, s_ne, s_add, l_ix, t_ix, l_add, l_cat, i_int, b_int, i_abs, l_len, t_len, r_len, s_len, i_str, i_max, i_min, oNeg, atI_0, atI_1, atI_2, atI_3, atI_m1, ixNL_0, ixNL_1, ixNL_2, ixNL_3,
 get_0, get_1, get_2, get_3, get_4, get_5, get_6, get_7, get_8, get_9, set_0, set_1, set_2, set_3, set_4, set_5, set_6, set_7, set_8, set_9, isT_tup, isT_str, isT_int, isT_bool, isT_lst, isC_ok, Bool.not_true, Bool.not_false, ln_0, ln_1, ln_2, ln_3, ln_4, lm_0, lm_1, lm_2, lm_3, lm_4, lm_5, lm_6, Option.bind_some, Option.bind_none, true_and, and_true, eq_self, ioIs, ite_and, if_true, if_false, ite_true, ite_false, reduceIte, Bool.false_eq_true, reduceCtorEq, decide_eq_true_eq, cdec_eq, cdec_ne, beq_iff_eq, Bool.not_eq_true']
          refine made_wp ok h60 ?_
          try simp only [wpS_seq, wpS_next, wpS_if, wpS_ite, wpS_thn, wpS_ret, wpS_retO, wpS_drop, wpS_bad, wpS_nx, wpS_rt, wpS_sbad, wpS_ofO, wpS_frz', wpR_ok, wpR_bad, wpR_bind, wpR_ite, wpO_ok, wpO_bad, wpO_ite, wpO_toR, wpO_toR', wpO_toRO, wpX_ok, wpX_exc, wpX_bad, wpX_ite, wpX_ofD, wpX_noExc, wpO_ofD, wp_toRO1, wpR_noExc,
 sAsg, sAsgO, sOwnSet, sPar, putFro_if, putOwn_if, sto_no, sto_fro, sto_own, frz, dVar, dC, dOp, dUn, dLs, aNil, aCons, dB, asB, dAnd, dOr, dNot, dAndV, dOrV, dNotV, dIfE, dTru, ofB, dFr, dMove, dTup, dLsO, opLst, dSl, pNone, pSome, asI, dOwnIx, ownL, dOwnLen, dOwnSl, dAppend, dPop, dCall0, dCall1, DL.call1, dMeth0, isC, wp_make, List.append_nil, dFld, oFldN, dOwnFld, sOwnFld, sf_00, sf_11, sf_22, sf_33, sf_0, sf_1, sf_2, sf_3, ownI, dCatO, iLst, asL, iRg, asRg, iRg3, asRg3, sFor, sWhile, dComp, wipeR,
 i_add, i_op0, i_op, i_eq, i_ne, s_eq, s_ne, s_add, l_ix, t_ix, l_add, l_cat, i_int, b_int, i_abs, l_len, t_len, r_len, s_len, i_str, i_max, i_min, oNeg, atI_0, atI_1, atI_2, atI_3, atI_m1, ixNL_0, ixNL_1, ixNL_2, ixNL_3,
 get_0, get_1, get_2, get_3, get_4, get_5, get_6, get_7, get_8, get_9, set_0, set_1, set_2, set_3, set_4, set_5, set_6, set_7, set_8, set_9, isT_tup, isT_str, isT_int, isT_bool, isT_lst, isC_ok, Bool.not_true, Bool.not_false, ln_0, ln_1, ln_2, ln_3, ln_4, lm_0, lm_1, lm_2, lm_3, lm_4, lm_5, lm_6, Option.bind_some, Option.bind_none, true_and, and_true, eq_self, ioIs, ite_and, if_true, if_false, ite_true, ite_false, reduceIte, Bool.false_eq_true, reduceCtorEq, decide_eq_true_eq, cdec_eq, cdec_ne, beq_iff_eq, Bool.not_eq_true']
          refine lwrite_wp ok h60 h60 ?_
          try simp only [wpS_seq, wpS_next, wpS_if, wpS_ite, wpS_thn, wpS_ret, wpS_retO, wpS_drop, wpS_bad, wpS_nx, wpS_rt, wpS_sbad, wpS_ofO, wpS_frz', wpR_ok, wpR_bad, wpR_bind, wpR_ite, wpO_ok, wpO_bad, wpO_ite, wpO_toR, wpO_toR', wpO_toRO, wpX_ok, wpX_exc, wpX_bad, wpX_ite, wpX_ofD, wpX_noExc, wpO_ofD, wp_toRO1, wpR_noExc,
 sAsg, sAsgO, sOwnSet, sPar, putFro_if, putOwn_if, sto_no, sto_fro, sto_own, frz, dVar, dC, dOp, dUn, dLs, aNil, aCons, dB, asB, dAnd, dOr, dNot, dAndV, dOrV, dNotV, dIfE, dTru, ofB, dFr, dMove, dTup, dLsO, opLst, dSl, pNone, pSome, asI, dOwnIx, ownL, dOwnLen, dOwnSl, dAppend, dPop, dCall0, dCall1, DL.call1, dMeth0, isC, wp_make, List.append_nil, dFld, oFldN, dOwnFld, sOwnFld, sf_00, sf_11, sf_22, sf_33, sf_0, sf_1, sf_2, sf_3, ownI, dCatO, iLst, asL, iRg, asRg, iRg3, asRg3, sFor, sWhile, dComp, wipeR,
 i_add, i_op0, i_op, i_eq, i_ne, s_eq, s_ne, s_add, l_ix, t_ix, l_add, l_cat, i_int, b_int, i_abs, l_len, t_len, r_len, s_len, i_str, i_max, i_min, oNeg, atI_0, atI_1, atI_2, atI_3, atI_m1, ixNL_0, ixNL_1, ixNL_2, ixNL_3,
 get_0, get_1, get_2, get_3, get_4, get_5, get_6, get_7, get_8, get_9, set_0, set_1, set_2, set_3, set_4, set_5, set_6, set_7, set_8, set_9, isT_tup, isT_str, isT_int, isT_bool, isT_lst, isC_ok, Bool.not_true, Bool.not_false, ln_0, ln_1, ln_2, ln_3, ln_4, lm_0, lm_1, lm_2, lm_3, lm_4, lm_5, lm_6, Option.bind_some, Option.bind_none, true_and, and_true, eq_self, ioIs, ite_and, if_true, if_false, ite_true, ite_false, reduceIte, Bool.false_eq_true, reduceCtorEq, decide_eq_true_eq, cdec_eq, cdec_ne, beq_iff_eq, Bool.not_eq_true']
          exact ⟨lt_most (by omega), k t f' ok h60 h'⟩
      try simp only [wpS_seq, wpS_next, wpS_if, wpS_ite, wpS_thn, wpS_ret, wpS_retO, wpS_drop, wpS_bad, wpS_nx, wpS_rt, wpS_sbad, wpS_ofO, wpS_frz', wpR_ok, wpR_bad, wpR_bind, wpR_ite, wpO_ok, wpO_bad, wpO_ite, wpO_toR, wpO_toR', wpO_toRO, wpX_ok, wpX_exc, wpX_bad, wpX_ite, wpX_ofD, wpX_noExc, wpO_ofD, wp_toRO1, wpR_noExc,
 sAsg, sAsgO, sOwnSet, sPar, putFro_if, putOwn_if, sto_no, sto_fro, sto_own, frz, dVar, dC, dOp, dUn, dLs, aNil, aCons, dB, asB, dAnd, dOr, dNot, dAndV, dOrV, dNotV, dIfE, dTru, ofB, dFr, dMove, dTup, dLsO, opLst, dSl, pNone, pSome, asI, dOwnIx, ownL, dOwnLen, dOwnSl, dAppend, dPop, dCall0, dCall1, DL.call1, dMeth0, isC, wp_make, List.append_nil, dFld, oFldN, dOwnFld, sOwnFld, sf_00, sf_11, sf_22, sf_33, sf_0, sf_1, sf_2, sf_3, ownI, dCatO, iLst, asL, iRg, asRg, iRg3, asRg3, sFor, sWhile, dComp, wipeR,
 i_add, i_op0, i_op, i_eq, i_ne, s_eq, s_ne, s_add, l_ix, t_ix, l_add, l_cat, i_int, b_int, i_abs, l_len, t_len, r_len, s_len, i_str, i_max, i_min, oNeg, atI_0, atI_1, atI_2, atI_3, atI_m1, ixNL_0, ixNL_1, ixNL_2, ixNL_3,
 get_0, get_1, get_2, get_3, get_4, get_5, get_6, get_7, get_8, get_9, set_0, set_1, set_2, set_3, set_4, set_5, set_6, set_7, set_8, set_9, isT_tup, isT_str, isT_int, isT_bool, isT_lst, isC_ok, Bool.not_true, Bool.not_false, ln_0, ln_1, ln_2, ln_3, ln_4, lm_0, lm_1, lm_2, lm_3, lm_4, lm_5, lm_6, Option.bind_some, Option.bind_none, true_and, and_true, eq_self, ioIs, ite_and, if_true, if_false, ite_true, ite_false, reduceIte, Bool.false_eq_true, reduceCtorEq, decide_eq_true_eq, cdec_eq, cdec_ne, beq_iff_eq, Bool.not_eq_true', rgOk_small (a := 0) (b := 2) (by decide) (by decide) (by decide) (by decide)]
      rw [show rgD 0 2 = [.int 0, .int 1] from rfl, wp_for_cons]
      simp only [putFro_if, get_3, sto_no, if_true, set_3]
      refine step f [] 0 .no .no _ hf rfl rfl (by decide) fun s f1 oks hs60 h1 => ?_
      dsimp only
      rw [wp_for_cons]
      simp only [putFro_if, get_3, sto_fro, if_true, set_3]
      refine step f1 _ 1 .no (.fro (tmD s)) _ h1 rfl rfl (by show 1 < 10; decide) fun t f2 okt ht60 h2 => ?_
      exact ⟨s, t, _, oks, hs60, okt, ht60, rfl⟩
    · rintro _ ⟨s, t, x, oks, hs60, okt, ht60, rfl⟩
      rw [wpS_frz']
      simp only [frz, get_2, set_2]
      generalize hW : (D.lst [.lst [tmD s, mdD s, .str (wr s)], .lst [tmD t, mdD t, .str (wr t)]]) = W
      have chk : ∀ (u : Tm) (s5 s7 : Sl) (K : Ks), TmOk u → wt u ≤ 60 → stoOk (some s7) = true → (∀ s7, stoOk (some s7) = true → K.n [.fro (.scr ns), x, .fro W, .fro (.int 1), .fro (tmD t), s5, .fro (.lst [tmD u, mdD u, .str (wr u)]), s7]) →
          (sSeq (sAsg 7 (dFr (dCall0 0 (fn_write_sum 60) (aCons (dOp oIx (dVar 6) (dC (.int 1))) (aNil)))))
  (sSeq (sIf (dOr (dNot (dB (dUn (oIsT "str") (dVar 7)))) (dB (dOp oNe (dVar 7) (dOp oIx (dVar 6) (dC (.int 2)))))) (sRet (dC (.bl false))) (sNext))
  (sIf (dB (dOp oNe (dFr (dCall0 0 (fn_write_sum 60) (aCons (dFr (dCall0 0 (fn_law_made 60) (aCons (dOp oIx (dVar 6) (dC (.int 0))) (aNil)))) (aNil)))) (dOp oIx (dVar 6) (dC (.int 2))))) (sRet (dC (.bl false))) (sNext))) ([.fro (.scr ns), x, .fro W, .fro (.int 1), .fro (tmD t), s5, .fro (.lst [tmD u, mdD u, .str (wr u)]), s7])).wp K := by
        intro u s5 s7 K ok h60 z7 k
        try simp only [wpS_seq, wpS_next, wpS_if, wpS_ite, wpS_thn, wpS_ret, wpS_retO, wpS_drop, wpS_bad, wpS_nx, wpS_rt, wpS_sbad, wpS_ofO, wpS_frz', wpR_ok, wpR_bad, wpR_bind, wpR_ite, wpO_ok, wpO_bad, wpO_ite, wpO_toR, wpO_toR', wpO_toRO, wpX_ok, wpX_exc, wpX_bad, wpX_ite, wpX_ofD, wpX_noExc, wpO_ofD, wp_toRO1, wpR_noExc,
 sAsg, sAsgO, sOwnSet, sPar, putFro_if, putOwn_if, sto_no, sto_fro, sto_own, frz, dVar, dC, dOp, dUn, dLs, aNil, aCons, dB, asB, dAnd, dOr, dNot, dAndV, dOrV, dNotV, dIfE, dTru, ofB, dFr, dMove, dTup, dLsO, opLst, dSl, pNone, pSome, asI, dOwnIx, ownL, dOwnLen, dOwnSl, dAppend, dPop, dCall0, dCall1, DL.call1, dMeth0, isC, wp_make, List.append_nil, dFld, oFldN, dOwnFld, sOwnFld, sf_00, sf_11, sf_22, sf_33, sf_0, sf_1, sf_2, sf_3, ownI, dCatO, iLst, asL, iRg, asRg, iRg3, asRg3, sFor, sWhile, dComp, wipeR,
 i_add, i_op0, i_op, i_eq, i_ne, s_eq, s_ne, s_add, l_ix, t_ix, l_add, l_cat, i_int, b_int, i_abs, l_len, t_len, r_len, s_len, i_str, i_max, i_min, oNeg, atI_0, atI_1, atI_2, atI_3, atI_m1, ixNL_0, ixNL_1, ixNL_2, ixNL_3,
 get_0, get_1, get_2, get_3, get_4, get_5, get_6, get_7, get_8, get_9, set_0, set_1, set_2, set_3, set_4, set_5, set_6, set_7, set_8, set_9, isT_tup, isT_str, isT_int, isT_bool, isT_lst, isC_ok, Bool.not_true, Bool.not_false, ln_0, ln_1, ln_2, ln_3, ln_4, lm_0, lm_1, lm_2, lm_3, lm_4, lm_5, lm_6, Option.bind_some, Option.bind_none, true_and, and_true, eq_self, ioIs, ite_and, if_true, if_false, ite_true, ite_false, reduceIte, Bool.false_eq_true, reduceCtorEq, decide_eq_true_eq, cdec_eq, cdec_ne, beq_iff_eq, Bool.not_eq_true']
        refine write_wp ok h60 h60 ?_
        try simp only [wpS_seq, wpS_next, wpS_if, wpS_ite, wpS_thn, wpS_ret, wpS_retO, wpS_drop, wpS_bad, wpS_nx, wpS_rt, wpS_sbad, wpS_ofO, wpS_frz', wpR_ok, wpR_bad, wpR_bind, wpR_ite, wpO_ok, wpO_bad, wpO_ite, wpO_toR, wpO_toR', wpO_toRO, wpX_ok, wpX_exc, wpX_bad, wpX_ite, wpX_ofD, wpX_noExc, wpO_ofD, wp_toRO1, wpR_noExc,
 sAsg, sAsgO, sOwnSet, sPar, putFro_if, putOwn_if, sto_no, sto_fro, sto_own, frz, dVar, dC, dOp, dUn, dLs, aNil, aCons, dB, asB, dAnd, dOr, dNot, dAndV, dOrV, dNotV, dIfE, dTru, ofB, dFr, dMove, dTup, dLsO, opLst, dSl, pNone, pSome, asI, dOwnIx, ownL, dOwnLen, dOwnSl, dAppend, dPop, dCall0, dCall1, DL.call1, dMeth0, isC, wp_make, List.append_nil, dFld, oFldN, dOwnFld, sOwnFld, sf_00, sf_11, sf_22, sf_33, sf_0, sf_1, sf_2, sf_3, ownI, dCatO, iLst, asL, iRg, asRg, iRg3, asRg3, sFor, sWhile, dComp, wipeR,
 i_add, i_op0, i_op, i_eq, i_ne, s_eq, s_ne, s_add, l_ix, t_ix, l_add, l_cat, i_int, b_int, i_abs, l_len, t_len, r_len, s_len, i_str, i_max, i_min, oNeg, atI_0, atI_1, atI_2, atI_3, atI_m1, ixNL_0, ixNL_1, ixNL_2, ixNL_3,
 get_0, get_1, get_2, get_3, get_4, get_5, get_6, get_7, get_8, get_9, set_0, set_1, set_2, set_3, set_4, set_5, set_6, set_7, set_8, set_9, isT_tup, isT_str, isT_int, isT_bool, isT_lst, isC_ok, Bool.not_true, Bool.not_false, ln_0, ln_1, ln_2, ln_3, ln_4, lm_0, lm_1, lm_2, lm_3, lm_4, lm_5, lm_6, Option.bind_some, Option.bind_none, true_and, and_true, eq_self, ioIs, ite_and, if_true, if_false, ite_true, ite_false, reduceIte, Bool.false_eq_true, reduceCtorEq, decide_eq_true_eq, cdec_eq, cdec_ne, beq_iff_eq, Bool.not_eq_true', z7, beq_self_eq_true]
        refine made_wp ok h60 ?_
        try simp only [wpS_seq, wpS_next, wpS_if, wpS_ite, wpS_thn, wpS_ret, wpS_retO, wpS_drop, wpS_bad, wpS_nx, wpS_rt, wpS_sbad, wpS_ofO, wpS_frz', wpR_ok, wpR_bad, wpR_bind, wpR_ite, wpO_ok, wpO_bad, wpO_ite, wpO_toR, wpO_toR', wpO_toRO, wpX_ok, wpX_exc, wpX_bad, wpX_ite, wpX_ofD, wpX_noExc, wpO_ofD, wp_toRO1, wpR_noExc,
 sAsg, sAsgO, sOwnSet, sPar, putFro_if, putOwn_if, sto_no, sto_fro, sto_own, frz, dVar, dC, dOp, dUn, dLs, aNil, aCons, dB, asB, dAnd, dOr, dNot, dAndV, dOrV, dNotV, dIfE, dTru, ofB, dFr, dMove, dTup, dLsO, opLst, dSl, pNone, pSome, asI, dOwnIx, ownL, dOwnLen, dOwnSl, dAppend, dPop, dCall0, dCall1, DL.call1, dMeth0, isC, wp_make, List.append_nil, dFld, oFldN, dOwnFld, sOwnFld, sf_00, sf_11, sf_22, sf_33, sf_0, sf_1, sf_2, sf_3, ownI, dCatO, iLst, asL, iRg, asRg, iRg3, asRg3, sFor, sWhile, dComp, wipeR,
 i_add, i_op0, i_op, i_eq, i_ne, s_eq, s_ne, s_add, l_ix, t_ix, l_add, l_cat, i_int, b_int, i_abs, l_len, t_len, r_len, s_len, i_str, i_max, i_min, oNeg, atI_0, atI_1, atI_2, atI_3, atI_m1, ixNL_0, ixNL_1, ixNL_2, ixNL_3,
 get_0, get_1, get_2, get_3, get_4, get_5, get_6, get_7, get_8, get_9, set_0, set_1, set_2, set_3, set_4, set_5, set_6, set_7, set_8, set_9, isT_tup, isT_str, isT_int, isT_bool, isT_lst, isC_ok, Bool.not_true, Bool.not_false, ln_0, ln_1, ln_2, ln_3, ln_4, lm_0, lm_1, lm_2, lm_3, lm_4, lm_5, lm_6, Option.bind_some, Option.bind_none, true_and, and_true, eq_self, ioIs, ite_and, if_true, if_false, ite_true, ite_false, reduceIte, Bool.false_eq_true, reduceCtorEq, decide_eq_true_eq, cdec_eq, cdec_ne, beq_iff_eq, Bool.not_eq_true']
        refine write_wp ok h60 h60 ?_
        try simp only [wpS_seq, wpS_next, wpS_if, wpS_ite, wpS_thn, wpS_ret, wpS_retO, wpS_drop, wpS_bad, wpS_nx, wpS_rt, wpS_sbad, wpS_ofO, wpS_frz', wpR_ok, wpR_bad, wpR_bind, wpR_ite, wpO_ok, wpO_bad, wpO_ite, wpO_toR, wpO_toR', wpO_toRO, wpX_ok, wpX_exc, wpX_bad, wpX_ite, wpX_ofD, wpX_noExc, wpO_ofD, wp_toRO1, wpR_noExc,
 sAsg, sAsgO, sOwnSet, sPar, putFro_if, putOwn_if, sto_no, sto_fro, sto_own, frz, dVar, dC, dOp, dUn, dLs, aNil, aCons, dB, asB, dAnd, dOr, dNot, dAndV, dOrV, dNotV, dIfE, dTru, ofB, dFr, dMove, dTup, dLsO, opLst, dSl, pNone, pSome, asI, dOwnIx, ownL, dOwnLen, dOwnSl, dAppend, dPop, dCall0, dCall1, DL.call1, dMeth0, isC, wp_make, List.append_nil, dFld, oFldN, dOwnFld, sOwnFld, sf_00, sf_11, sf_22, sf_33, sf_0, sf_1, sf_2, sf_3, ownI, dCatO, iLst, asL, iRg, asRg, iRg3, asRg3, sFor, sWhile, dComp, wipeR,
 i_add, i_op0, i_op, i_eq, i_ne, s_eq, s_ne, s_add, l_ix, t_ix, l_add, l_cat, i_int, b_int, i_abs, l_len, t_len, r_len, s_len, i_str, i_max, i_min, oNeg, atI_0, atI_1, atI_2, atI_3, atI_m1, ixNL_0, ixNL_1, ixNL_2, ixNL_3,
 get_0, get_1, get_2, get_3, get_4, get_5, get_6, get_7, get_8, get_9, set_0, set_1, set_2, set_3, set_4, set_5, set_6, set_7, set_8, set_9, isT_tup, isT_str, isT_int, isT_bool, isT_lst, isC_ok, Bool.not_true, Bool.not_false, ln_0, ln_1, ln_2, ln_3, ln_4, lm_0, lm_1, lm_2, lm_3, lm_4, lm_5, lm_6, Option.bind_some, Option.bind_none, true_and, and_true, eq_self, ioIs, ite_and, if_true, if_false, ite_true, ite_false, reduceIte, Bool.false_eq_true, reduceCtorEq, decide_eq_true_eq, cdec_eq, cdec_ne, beq_iff_eq, Bool.not_eq_true', beq_self_eq_true]
        exact k _ rfl
      refine wp_cut (fun ρ => ∃ s5 s6 s7, ρ = [.fro (.scr ns), x, .fro W, .fro (.int 1), .fro (tmD t), s5, s6, s7]) ?_ ?_
      · try simp only [wpS_seq, wpS_next, wpS_if, wpS_ite, wpS_thn, wpS_ret, wpS_retO, wpS_drop, wpS_bad, wpS_nx, wpS_rt, wpS_sbad, wpS_ofO, wpS_frz', wpR_ok, wpR_bad, wpR_bind, wpR_ite, wpO_ok, wpO_bad, wpO_ite, wpO_toR, wpO_toR', wpO_toRO, wpX_ok, wpX_exc, wpX_bad, wpX_ite, wpX_ofD, wpX_noExc, wpO_ofD, wp_toRO1, wpR_noExc,
 sAsg, sAsgO, sOwnSet, sPar, putFro_if, putOwn_if, sto_no, sto_fro, sto_own, frz, dVar, dC, dOp, dUn, dLs, aNil, aCons, dB, asB, dAnd, dOr, dNot, dAndV, dOrV, dNotV, dIfE, dTru, ofB, dFr, dMove, dTup, dLsO, opLst, dSl, pNone, pSome, asI, dOwnIx, ownL, dOwnLen, dOwnSl, dAppend, dPop, dCall0, dCall1, DL.call1, dMeth0, isC, wp_make, List.append_nil, dFld, oFldN, dOwnFld, sOwnFld, sf_00, sf_11, sf_22, sf_33, sf_0, sf_1, sf_2, sf_3, ownI, dCatO, iLst, asL, iRg, asRg, iRg3, asRg3, sFor, sWhile, dComp, wipeR,
 i_add, i_op0, i_op, i_eq, i_ne, s_eq, s_ne, s_add, l_ix, t_ix, l_add, l_cat, i_int, b_int, i_abs, l_len, t_len, r_len, s_len, i_str, i_max, i_min, oNeg, atI_0, atI_1, atI_2, atI_3, atI_m1, ixNL_0, ixNL_1, ixNL_2, ixNL_3,
 get_0, get_1, get_2, get_3, get_4, get_5, get_6, get_7, get_8, get_9, set_0, set_1, set_2, set_3, set_4, set_5, set_6, set_7, set_8, set_9, isT_tup, isT_str, isT_int, isT_bool, isT_lst, isC_ok, Bool.not_true, Bool.not_false, ln_0, ln_1, ln_2, ln_3, ln_4, lm_0, lm_1, lm_2, lm_3, lm_4, lm_5, lm_6, Option.bind_some, Option.bind_none, true_and, and_true, eq_self, ioIs, ite_and, if_true, if_false, ite_true, ite_false, reduceIte, Bool.false_eq_true, reduceCtorEq, decide_eq_true_eq, cdec_eq, cdec_ne, beq_iff_eq, Bool.not_eq_true', rgOk_small (a := 0) (b := 2) (by decide) (by decide) (by decide) (by decide)]
        refine wp_for (fun i ρ => ∃ s5 s6 s7, stoOk (some s5) = true ∧ stoOk (some s6) = true ∧ stoOk (some s7) = true ∧ ρ = [.fro (.scr ns), x, .fro W, .fro (.int 1), .fro (tmD t), s5, s6, s7]) _ 0 _ ⟨_, _, _, rfl, rfl, rfl, rfl⟩ ?_ ?_
        · rintro i y _ hy ⟨s5, s6, s7, z5, z6, z7, rfl⟩
          refine ⟨_, putFro_ok z5, ?_⟩
          subst hW
          try simp only [wpS_seq, wpS_next, wpS_if, wpS_ite, wpS_thn, wpS_ret, wpS_retO, wpS_drop, wpS_bad, wpS_nx, wpS_rt, wpS_sbad, wpS_ofO, wpS_frz', wpR_ok, wpR_bad, wpR_bind, wpR_ite, wpO_ok, wpO_bad, wpO_ite, wpO_toR, wpO_toR', wpO_toRO, wpX_ok, wpX_exc, wpX_bad, wpX_ite, wpX_ofD, wpX_noExc, wpO_ofD, wp_toRO1, wpR_noExc,
 sAsg, sAsgO, sOwnSet, sPar, putFro_if, putOwn_if, sto_no, sto_fro, sto_own, frz, dVar, dC, dOp, dUn, dLs, aNil, aCons, dB, asB, dAnd, dOr, dNot, dAndV, dOrV, dNotV, dIfE, dTru, ofB, dFr, dMove, dTup, dLsO, opLst, dSl, pNone, pSome, asI, dOwnIx, ownL, dOwnLen, dOwnSl, dAppend, dPop, dCall0, dCall1, DL.call1, dMeth0, isC, wp_make, List.append_nil, dFld, oFldN, dOwnFld, sOwnFld, sf_00, sf_11, sf_22, sf_33, sf_0, sf_1, sf_2, sf_3, ownI, dCatO, iLst, asL, iRg, asRg, iRg3, asRg3, sFor, sWhile, dComp, wipeR,
 i_add, i_op0, i_op, i_eq, i_ne, s_eq, s_ne, s_add, l_ix, t_ix, l_add, l_cat, i_int, b_int, i_abs, l_len, t_len, r_len, s_len, i_str, i_max, i_min, oNeg, atI_0, atI_1, atI_2, atI_3, atI_m1, ixNL_0, ixNL_1, ixNL_2, ixNL_3,
 get_0, get_1, get_2, get_3, get_4, get_5, get_6, get_7, get_8, get_9, set_0, set_1, set_2, set_3, set_4, set_5, set_6, set_7, set_8, set_9, isT_tup, isT_str, isT_int, isT_bool, isT_lst, isC_ok, Bool.not_true, Bool.not_false, ln_0, ln_1, ln_2, ln_3, ln_4, lm_0, lm_1, lm_2, lm_3, lm_4, lm_5, lm_6, Option.bind_some, Option.bind_none, true_and, and_true, eq_self, ioIs, ite_and, if_true, if_false, ite_true, ite_false, reduceIte, Bool.false_eq_true, reduceCtorEq, decide_eq_true_eq, cdec_eq, cdec_ne, beq_iff_eq, Bool.not_eq_true']
          refine wp_for (fun i ρ => ∃ s6 s7, stoOk (some s6) = true ∧ stoOk (some s7) = true ∧ ρ = [.fro (.scr ns), x, .fro (.lst [.lst [tmD s, mdD s, .str (wr s)], .lst [tmD t, mdD t, .str (wr t)]]), .fro (.int 1), .fro (tmD t), .fro y, s6, s7]) _ 0 _ ⟨_, _, z6, z7, rfl⟩ ?_ ?_
          · rintro i z _ hz ⟨s6, s7, z6, z7, rfl⟩
            have hu : ∃ u, TmOk u ∧ wt u ≤ 60 ∧ z = .lst [tmD u, mdD u, .str (wr u)] := by
              match i, hz with
              | 0, hz => cases hz; exact ⟨s, oks, hs60, rfl⟩
              | 1, hz => cases hz; exact ⟨t, okt, ht60, rfl⟩
              | i + 2, hz => simp at hz
            obtain ⟨u, oku, hu60, rfl⟩ := hu
            refine ⟨_, putFro_ok z6, ?_⟩
            exact chk u (.fro y) s7 _ oku hu60 z7 fun s7 z7 => ⟨_, s7, rfl, z7, rfl⟩
          · rintro _ ⟨s6, s7, z6, z7, rfl⟩
            exact ⟨_, s6, s7, rfl, z6, z7, rfl⟩
        · rintro _ ⟨s5, s6, s7, z5, z6, z7, rfl⟩
          exact ⟨s5, s6, s7, rfl⟩
      · rintro _ ⟨s5, s6, s7, rfl⟩
        subst hW
        try simp only [wpS_seq, wpS_next, wpS_if, wpS_ite, wpS_thn, wpS_ret, wpS_retO, wpS_drop, wpS_bad, wpS_nx, wpS_rt, wpS_sbad, wpS_ofO, wpS_frz', wpR_ok, wpR_bad, wpR_bind, wpR_ite, wpO_ok, wpO_bad, wpO_ite, wpO_toR, wpO_toR', wpO_toRO, wpX_ok, wpX_exc, wpX_bad, wpX_ite, wpX_ofD, wpX_noExc, wpO_ofD, wp_toRO1, wpR_noExc,
 sAsg, sAsgO, sOwnSet, sPar, putFro_if, putOwn_if, sto_no, sto_fro, sto_own, frz, dVar, dC, dOp, dUn, dLs, aNil, aCons, dB, asB, dAnd, dOr, dNot, dAndV, dOrV, dNotV, dIfE, dTru, ofB, dFr, dMove, dTup, dLsO, opLst, dSl, pNone, pSome, asI, dOwnIx, ownL, dOwnLen, dOwnSl, dAppend, dPop, dCall0, dCall1, DL.call1, dMeth0, isC, wp_make, List.append_nil, dFld, oFldN, dOwnFld, sOwnFld, sf_00, sf_11, sf_22, sf_33, sf_0, sf_1, sf_2, sf_3, ownI, dCatO, iLst, asL, iRg, asRg, iRg3, asRg3, sFor, sWhile, dComp, wipeR,
 i_add, i_op0, i_op, i_eq, i_ne, s_eq, s_ne, s_add, l_ix, t_ix, l_add, l_cat, i_int, b_int, i_abs, l_len, t_len, r_len, s_len, i_str, i_max, i_min, oNeg, atI_0, atI_1, atI_2, atI_3, atI_m1, ixNL_0, ixNL_1, ixNL_2, ixNL_3,
 get_0, get_1, get_2, get_3, get_4, get_5, get_6, get_7, get_8, get_9, set_0, set_1, set_2, set_3, set_4, set_5, set_6, set_7, set_8, set_9, isT_tup, isT_str, isT_int, isT_bool, isT_lst, isC_ok, Bool.not_true, Bool.not_false, ln_0, ln_1, ln_2, ln_3, ln_4, lm_0, lm_1, lm_2, lm_3, lm_4, lm_5, lm_6, Option.bind_some, Option.bind_none, true_and, and_true, eq_self, ioIs, ite_and, if_true, if_false, ite_true, ite_false, reduceIte, Bool.false_eq_true, reduceCtorEq, decide_eq_true_eq, cdec_eq, cdec_ne, beq_iff_eq, Bool.not_eq_true']
        refine sameterm_wp oks hs60 ?_
        try simp only [wpS_seq, wpS_next, wpS_if, wpS_ite, wpS_thn, wpS_ret, wpS_retO, wpS_drop, wpS_bad, wpS_nx, wpS_rt, wpS_sbad, wpS_ofO, wpS_frz', wpR_ok, wpR_bad, wpR_bind, wpR_ite, wpO_ok, wpO_bad, wpO_ite, wpO_toR, wpO_toR', wpO_toRO, wpX_ok, wpX_exc, wpX_bad, wpX_ite, wpX_ofD, wpX_noExc, wpO_ofD, wp_toRO1, wpR_noExc,
 sAsg, sAsgO, sOwnSet, sPar, putFro_if, putOwn_if, sto_no, sto_fro, sto_own, frz, dVar, dC, dOp, dUn, dLs, aNil, aCons, dB, asB, dAnd, dOr, dNot, dAndV, dOrV, dNotV, dIfE, dTru, ofB, dFr, dMove, dTup, dLsO, opLst, dSl, pNone, pSome, asI, dOwnIx, ownL, dOwnLen, dOwnSl, dAppend, dPop, dCall0, dCall1, DL.call1, dMeth0, isC, wp_make, List.append_nil, dFld, oFldN, dOwnFld, sOwnFld, sf_00, sf_11, sf_22, sf_33, sf_0, sf_1, sf_2, sf_3, ownI, dCatO, iLst, asL, iRg, asRg, iRg3, asRg3, sFor, sWhile, dComp, wipeR,
 i_add, i_op0, i_op, i_eq, i_ne, s_eq, s_ne, s_add, l_ix, t_ix, l_add, l_cat, i_int, b_int, i_abs, l_len, t_len, r_len, s_len, i_str, i_max, i_min, oNeg, atI_0, atI_1, atI_2, atI_3, atI_m1, ixNL_0, ixNL_1, ixNL_2, ixNL_3,
 get_0, get_1, get_2, get_3, get_4, get_5, get_6, get_7, get_8, get_9, set_0, set_1, set_2, set_3, set_4, set_5, set_6, set_7, set_8, set_9, isT_tup, isT_str, isT_int, isT_bool, isT_lst, isC_ok, Bool.not_true, Bool.not_false, ln_0, ln_1, ln_2, ln_3, ln_4, lm_0, lm_1, lm_2, lm_3, lm_4, lm_5, lm_6, Option.bind_some, Option.bind_none, true_and, and_true, eq_self, ioIs, ite_and, if_true, if_false, ite_true, ite_false, reduceIte, Bool.false_eq_true, reduceCtorEq, decide_eq_true_eq, cdec_eq, cdec_ne, beq_iff_eq, Bool.not_eq_true']
        refine sameterm_wp okt ht60 ?_
        try simp only [wpS_seq, wpS_next, wpS_if, wpS_ite, wpS_thn, wpS_ret, wpS_retO, wpS_drop, wpS_bad, wpS_nx, wpS_rt, wpS_sbad, wpS_ofO, wpS_frz', wpR_ok, wpR_bad, wpR_bind, wpR_ite, wpO_ok, wpO_bad, wpO_ite, wpO_toR, wpO_toR', wpO_toRO, wpX_ok, wpX_exc, wpX_bad, wpX_ite, wpX_ofD, wpX_noExc, wpO_ofD, wp_toRO1, wpR_noExc,
 sAsg, sAsgO, sOwnSet, sPar, putFro_if, putOwn_if, sto_no, sto_fro, sto_own, frz, dVar, dC, dOp, dUn, dLs, aNil, aCons, dB, asB, dAnd, dOr, dNot, dAndV, dOrV, dNotV, dIfE, dTru, ofB, dFr, dMove, dTup, dLsO, opLst, dSl, pNone, pSome, asI, dOwnIx, ownL, dOwnLen, dOwnSl, dAppend, dPop, dCall0, dCall1, DL.call1, dMeth0, isC, wp_make, List.append_nil, dFld, oFldN, dOwnFld, sOwnFld, sf_00, sf_11, sf_22, sf_33, sf_0, sf_1, sf_2, sf_3, ownI, dCatO, iLst, asL, iRg, asRg, iRg3, asRg3, sFor, sWhile, dComp, wipeR,
 i_add, i_op0, i_op, i_eq, i_ne, s_eq, s_ne, s_add, l_ix, t_ix, l_add, l_cat, i_int, b_int, i_abs, l_len, t_len, r_len, s_len, i_str, i_max, i_min, oNeg, atI_0, atI_1, atI_2, atI_3, atI_m1, ixNL_0, ixNL_1, ixNL_2, ixNL_3,
 get_0, get_1, get_2, get_3, get_4, get_5, get_6, get_7, get_8, get_9, set_0, set_1, set_2, set_3, set_4, set_5, set_6, set_7, set_8, set_9, isT_tup, isT_str, isT_int, isT_bool, isT_lst, isC_ok, Bool.not_true, Bool.not_false, ln_0, ln_1, ln_2, ln_3, ln_4, lm_0, lm_1, lm_2, lm_3, lm_4, lm_5, lm_6, Option.bind_some, Option.bind_none, true_and, and_true, eq_self, ioIs, ite_and, if_true, if_false, ite_true, ite_false, reduceIte, Bool.false_eq_true, reduceCtorEq, decide_eq_true_eq, cdec_eq, cdec_ne, beq_iff_eq, Bool.not_eq_true']
theorem fn_law_true (ns : List Int) (hl : ns.length ≤ 63) (hz : ∀ z ∈ ns, Builtin.Int.intBits z ≤ 1048576) : fn_law [.scr ns] = .ok (.bl true) := O.eq_of (law_wp ns hl)
section
variable {P : Program} {w : World} {G : Gam} {mg : Str → Option Value} {base : Heap}
theorem all_ok  {a_LEVELS : Addr} (hnm : G.nm = nmW) (n_abs : mg "abs" = none) (n_len : mg "len" = none) (n_int : mg "int" = none) (n_range : mg "range" = none) (n_max : mg "max" = none) (n_isinstance : mg "isinstance" = none) (n_bool : mg "bool" = none) (ins0 : InsOk G 0) (m_Ratio : mg "Ratio" = some (.ref (G.cl 0))) (cls0 : ClsOk G 0) (n_tuple : mg "tuple" = none) (n_str : mg "str" = none) (k_LEVELS : KdOk G w a_LEVELS kd_LEVELS) (m_LEVELS : mg "LEVELS" = some (.ref a_LEVELS)) (D_law_feed : DefAt G.K mg "_law_feed" "_law_feed" st_law_feed ["script"]) (D_law_draw : DefAt G.K mg "_law_draw" "_law_draw" st_law_draw ["feed", "limit"]) (D_law_pair : DefAt G.K mg "_law_pair" "_law_pair" st_law_pair ["above", "below"]) (D_law_great : DefAt G.K mg "_law_great" "_law_great" st_law_great ["feed", "parts"]) (D_law_leaf : DefAt G.K mg "_law_leaf" "_law_leaf" st_law_leaf ["feed", "wide"]) (D_law_joined : DefAt G.K mg "_law_joined" "_law_joined" st_law_joined ["feed", "one", "two"]) (D_law_bush : DefAt G.K mg "_law_bush" "_law_bush" st_law_bush ["feed", "wide"]) (D_law_chain : DefAt G.K mg "_law_chain" "_law_chain" st_law_chain ["feed", "wide", "many"]) (D_law_wide_term : DefAt G.K mg "_law_wide_term" "_law_wide_term" st_law_wide_term ["feed", "wide"]) (D_law_term : DefAt G.K mg "_law_term" "_law_term" st_law_term ["feed"]) (D_law_is_integer : DefAt G.K mg "_law_is_integer" "_law_is_integer" st_law_is_integer ["actual"]) (D_law_same : DefAt G.K mg "_law_same" "_law_same" st_law_same ["actual", "due"]) (D_law_same_term : DefAt G.K mg "_law_same_term" "_law_same_term" st_law_same_term ["actual", "due"]) (D_Ratio_text : MetAt G.K (G.cl 0) "text" "Ratio.text" st_Ratio_text ["self"]) (D_write_part : DefAt G.K mg "write_part" "write_part" st_write_part ["term", "least"]) (D_write_sum : DefAt G.K mg "write_sum" "write_sum" st_write_sum ["term"]) (D_shared_part : DefAt G.K mg "shared_part" "shared_part" st_shared_part ["one", "other"]) (D_Ratio_init : IniAt G.K (G.cl 0) "Ratio.__init__" st_Ratio_init ["self", "top", "bottom"] [.int 1]) (D_law_made : DefAt G.K mg "_law_made" "_law_made" st_law_made ["term"]) (D_law_text : DefAt G.K mg "_law_text" "_law_text" st_law_text ["one"]) (D_law_part : DefAt G.K mg "_law_part" "_law_part" st_law_part ["term", "barred"]) (D_law_write : DefAt G.K mg "_law_write" "_law_write" st_law_write ["term"])  : Body0 P w G mg base 121 ["script", "feed", "held", "k", "term", "turn", "one", "said"] ["script"] "law" st_law sc_law bd_law := by
  have c_law_feed : CallOk P w G.K mg base "_law_feed" (1) (spec0 G 1 1 fn_law_feed) := dcl0 D_law_feed sc_law_feed (by_law_feed hnm n_abs n_len)
  have c_law_draw : CallOk P w G.K mg base "_law_draw" (1) (spec1 G 0 1 2 fn_law_draw) := dcl1 D_law_draw sc_law_draw (by_law_draw hnm n_len n_int)
  have c_law_pair : CallOk P w G.K mg base "_law_pair" (1) (spec0 G 0 2 fn_law_pair) := dcl0 D_law_pair sc_law_pair (by_law_pair hnm n_abs n_int)
  have c_law_great : CallOk P w G.K mg base "_law_great" (2) (spec1 G 0 1 2 fn_law_great) := dcl1 D_law_great sc_law_great (by_law_great hnm n_range c_law_draw)
  have c_law_leaf : CallOk P w G.K mg base "_law_leaf" (3) (spec1 G 0 1 2 fn_law_leaf) := dcl1 D_law_leaf sc_law_leaf (by_law_leaf hnm c_law_draw c_law_great n_max c_law_pair)
  have c_law_joined : CallOk P w G.K mg base "_law_joined" (2) (spec1 G 0 1 3 fn_law_joined) := dcl1 D_law_joined sc_law_joined (by_law_joined hnm c_law_draw)
  have c_law_bush : CallOk P w G.K mg base "_law_bush" (4) (spec1 G 0 1 2 fn_law_bush) := dcl1 D_law_bush sc_law_bush (by_law_bush hnm c_law_draw n_range c_law_leaf n_len c_law_joined)
  have c_law_chain : CallOk P w G.K mg base "_law_chain" (4) (spec1 G 0 1 3 fn_law_chain) := dcl1 D_law_chain sc_law_chain (by_law_chain hnm c_law_leaf n_range c_law_draw c_law_joined)
  have c_law_wide_term : CallOk P w G.K mg base "_law_wide_term" (4) (spec1 G 0 1 2 fn_law_wide_term) := dcl1 D_law_wide_term sc_law_wide_term (by_law_wide_term hnm n_range c_law_leaf n_len c_law_joined)
  have c_law_term : CallOk P w G.K mg base "_law_term" (5) (spec1 G 0 1 1 fn_law_term) := dcl1 D_law_term sc_law_term (by_law_term hnm c_law_draw n_int c_law_chain c_law_wide_term c_law_bush)
  have c_law_is_integer : CallOk P w G.K mg base "_law_is_integer" (1) (spec0 G 0 1 fn_law_is_integer) := dcl0 D_law_is_integer sc_law_is_integer (by_law_is_integer hnm n_isinstance n_int n_bool)
  have c_law_same : CallOk P w G.K mg base "_law_same" (2) (spec0 G 0 2 fn_law_same) := dcl0 D_law_same sc_law_same (by_law_same hnm ins0 m_Ratio n_isinstance cls0 c_law_is_integer)
  have c_law_same_term : CallOk P w G.K mg base "_law_same_term" (3) (spec0 G 0 2 fn_law_same_term) := dcl0 D_law_same_term sc_law_same_term (by_law_same_term hnm n_len n_isinstance n_tuple n_str c_law_same n_range)
  have me_Ratio_text : MethOk P w G mg base 0 "text" (1) (spec0 G 0 1 fn_Ratio_text) := dmt0 cls0.cl (by rw [hnm]; decide) D_Ratio_text sc_Ratio_text (by_Ratio_text hnm cls0 n_str)
  have c_write_sum : ∀ n : Nat, CallOk P w G.K mg base "write_sum" (1 + 2 * n) (spec0 G 0 1 (fn_write_sum n)) := by
    intro n
    induction n with
    | zero => exact dclB0 D_write_sum
    | succ n ih =>
      have c_write_sum := ih
      have c_write_part : CallOk P w G.K mg base "write_part" (1 + 2 * n + 1) (spec0 G 0 2 (fn_write_part (fn_write_sum n))) := dcl0 D_write_part sc_write_part (by_write_part hnm c_write_sum k_LEVELS m_LEVELS (by omega))
      exact (dcl0 D_write_sum sc_write_sum (by_write_sum hnm me_Ratio_text c_write_part (by omega))).mono (by omega)
  have c_write_part : CallOk P w G.K mg base "write_part" (122) (spec0 G 0 2 (fn_write_part (fn_write_sum 60))) := by
    have c_write_sum := c_write_sum 60
    exact dcl0 D_write_part sc_write_part (by_write_part hnm c_write_sum k_LEVELS m_LEVELS (by omega))
  have c_write_sum := c_write_sum 60
  have c_shared_part : CallOk P w G.K mg base "shared_part" (1) (spec0 G 0 2 fn_shared_part) := dcl0 D_shared_part sc_shared_part (by_shared_part hnm )
  have mk_Ratio_0 : MakeOk P w G mg base "Ratio" 0 2 [] (spec1 G 0 1 3 fn_Ratio_init) := dmk1 m_Ratio 1 (fun F => RepL.nil) D_Ratio_init sc_Ratio_init (by_Ratio_init hnm n_abs c_shared_part cls0)
  have c_law_made : ∀ n : Nat, CallOk P w G.K mg base "_law_made" (3 + 1 * n) (spec0 G 0 1 (fn_law_made n)) := by
    intro n
    induction n with
    | zero => exact dclB0 D_law_made
    | succ n ih =>
      have c_law_made := ih
      exact (dcl0 D_law_made sc_law_made (by_law_made hnm mk_Ratio_0 c_law_made (by omega))).mono (by omega)
  have c_law_made := c_law_made 60
  have c_law_text : CallOk P w G.K mg base "_law_text" (1) (spec0 G 0 1 fn_law_text) := dcl0 D_law_text sc_law_text (by_law_text hnm n_str)
  have c_law_write : ∀ n : Nat, CallOk P w G.K mg base "_law_write" (1 + 2 * n) (spec0 G 0 1 (fn_law_write n)) := by
    intro n
    induction n with
    | zero => exact dclB0 D_law_write
    | succ n ih =>
      have c_law_write := ih
      have c_law_part : CallOk P w G.K mg base "_law_part" (1 + 2 * n + 1) (spec0 G 0 2 (fn_law_part (fn_law_write n))) := dcl0 D_law_part sc_law_part (by_law_part hnm c_law_write (by omega))
      exact (dcl0 D_law_write sc_law_write (by_law_write hnm c_law_text c_law_write c_law_part (by omega))).mono (by omega)
  have c_law_part : CallOk P w G.K mg base "_law_part" (122) (spec0 G 0 2 (fn_law_part (fn_law_write 60))) := by
    have c_law_write := c_law_write 60
    exact dcl0 D_law_part sc_law_part (by_law_part hnm c_law_write (by omega))
  have c_law_write := c_law_write 60
  exact by_law hnm c_law_feed n_range c_law_term c_law_made c_law_write c_write_sum n_isinstance n_str c_law_same_term
end
theorem all_mk {P : Program} {w : World} {K : PySem.W.Frag} {h : Heap} {mg : Str → Option Value} {fa C0 f_0 f_1 f_2 f_3 f_4 f_5 f_6 f_7 f_8 f_9 f_10 f_11 f_12 f_13 f_14 f_15 f_16 f_17 f_18 f_19 f_20 f_21 f_22 T_17 a_LEVELS : Addr} {od_0 an_0 od_1 an_1 od_2 an_2 od_3 an_3 od_4 an_4 od_5 an_5 od_6 an_6 od_7 an_7 od_8 an_8 od_9 an_9 od_10 an_10 od_11 an_11 od_12 an_12 od_13 an_13 od_14 an_14 od_15 an_15 od_16 an_16 od_17 an_17 od_18 an_18 od_19 an_19 od_20 an_20 od_21 an_21 od_22 an_22 oe_17 : Option Addr} {sl_0 sl_1 sl_2 sl_3 sl_4 sl_5 sl_6 sl_7 sl_8 sl_9 sl_10 sl_11 sl_12 sl_13 sl_14 sl_15 sl_16 sl_17 sl_18 sl_19 sl_20 sl_21 sl_22 sk_17 : Array (Option Value)} {oc_0 kV_0 dc_0 pm_0 cd_0 ct_0 oc_1 kV_1 dc_1 pm_1 cd_1 ct_1 oc_2 kV_2 dc_2 pm_2 cd_2 ct_2 oc_3 kV_3 dc_3 pm_3 cd_3 ct_3 oc_4 kV_4 dc_4 pm_4 cd_4 ct_4 oc_5 kV_5 dc_5 pm_5 cd_5 ct_5 oc_6 kV_6 dc_6 pm_6 cd_6 ct_6 oc_7 kV_7 dc_7 pm_7 cd_7 ct_7 oc_8 kV_8 dc_8 pm_8 cd_8 ct_8 oc_9 kV_9 dc_9 pm_9 cd_9 ct_9 oc_10 kV_10 dc_10 pm_10 cd_10 ct_10 oc_11 kV_11 dc_11 pm_11 cd_11 ct_11 oc_12 kV_12 dc_12 pm_12 cd_12 ct_12 oc_13 kV_13 dc_13 pm_13 cd_13 ct_13 oc_14 kV_14 dc_14 pm_14 cd_14 ct_14 oc_15 kV_15 dc_15 pm_15 cd_15 ct_15 oc_16 kV_16 dc_16 pm_16 cd_16 ct_16 oc_17 kV_17 dc_17 pm_17 cd_17 ct_17 oc_18 kV_18 dc_18 pm_18 cd_18 ct_18 oc_19 kV_19 dc_19 pm_19 cd_19 ct_19 oc_20 kV_20 dc_20 pm_20 cd_20 ct_20 oc_21 kV_21 dc_21 pm_21 cd_21 ct_21 oc_22 kV_22 dc_22 pm_22 cd_22 ct_22 oT_17 : Value} {tk_17 tk_LEVELS_0 tk_LEVELS_1 tk_LEVELS_2 tk_LEVELS_3 tk_LEVELS_4 : Tok} {nT_17 : Nat} {es_LEVELS : Array DictEntry} {n_LEVELS : Nat} (X : K.In h) (Gn : h.Ns mainGlobals mg) (hfa : mg "law" = some (.ref fa))
  (aC0 : PySem.W.nsIn K mainGlobals "Ratio" = some (some (.ref C0)))
  (a_0 : PySem.W.nsIn K mainGlobals "_law_feed" = some (some (.ref f_0)))
  (l_0 : K.lookup f_0 = some ⟨oc_0, od_0, .func (PySem.W.fnOf "_law_feed" "_law_feed" (defArgs st_law_feed) (defBody st_law_feed) (defScope st_law_feed) .none kV_0 dc_0 pm_0 an_0 cd_0 ct_0), sl_0⟩)
  (c_0 : PySem.W.codeIn K cd_0 "_law_feed" = true)
  (k_0 : PySem.W.keepIn K (.ref f_0) = true)
  (a_1 : PySem.W.nsIn K mainGlobals "_law_draw" = some (some (.ref f_1)))
  (l_1 : K.lookup f_1 = some ⟨oc_1, od_1, .func (PySem.W.fnOf "_law_draw" "_law_draw" (defArgs st_law_draw) (defBody st_law_draw) (defScope st_law_draw) .none kV_1 dc_1 pm_1 an_1 cd_1 ct_1), sl_1⟩)
  (c_1 : PySem.W.codeIn K cd_1 "_law_draw" = true)
  (k_1 : PySem.W.keepIn K (.ref f_1) = true)
  (a_2 : PySem.W.nsIn K mainGlobals "_law_pair" = some (some (.ref f_2)))
  (l_2 : K.lookup f_2 = some ⟨oc_2, od_2, .func (PySem.W.fnOf "_law_pair" "_law_pair" (defArgs st_law_pair) (defBody st_law_pair) (defScope st_law_pair) .none kV_2 dc_2 pm_2 an_2 cd_2 ct_2), sl_2⟩)
  (c_2 : PySem.W.codeIn K cd_2 "_law_pair" = true)
  (k_2 : PySem.W.keepIn K (.ref f_2) = true)
  (a_3 : PySem.W.nsIn K mainGlobals "_law_great" = some (some (.ref f_3)))
  (l_3 : K.lookup f_3 = some ⟨oc_3, od_3, .func (PySem.W.fnOf "_law_great" "_law_great" (defArgs st_law_great) (defBody st_law_great) (defScope st_law_great) .none kV_3 dc_3 pm_3 an_3 cd_3 ct_3), sl_3⟩)
  (c_3 : PySem.W.codeIn K cd_3 "_law_great" = true)
  (k_3 : PySem.W.keepIn K (.ref f_3) = true)
  (a_4 : PySem.W.nsIn K mainGlobals "_law_leaf" = some (some (.ref f_4)))
  (l_4 : K.lookup f_4 = some ⟨oc_4, od_4, .func (PySem.W.fnOf "_law_leaf" "_law_leaf" (defArgs st_law_leaf) (defBody st_law_leaf) (defScope st_law_leaf) .none kV_4 dc_4 pm_4 an_4 cd_4 ct_4), sl_4⟩)
  (c_4 : PySem.W.codeIn K cd_4 "_law_leaf" = true)
  (k_4 : PySem.W.keepIn K (.ref f_4) = true)
  (a_5 : PySem.W.nsIn K mainGlobals "_law_joined" = some (some (.ref f_5)))
  (l_5 : K.lookup f_5 = some ⟨oc_5, od_5, .func (PySem.W.fnOf "_law_joined" "_law_joined" (defArgs st_law_joined) (defBody st_law_joined) (defScope st_law_joined) .none kV_5 dc_5 pm_5 an_5 cd_5 ct_5), sl_5⟩)
  (c_5 : PySem.W.codeIn K cd_5 "_law_joined" = true)
  (k_5 : PySem.W.keepIn K (.ref f_5) = true)
  (a_6 : PySem.W.nsIn K mainGlobals "_law_bush" = some (some (.ref f_6)))
  (l_6 : K.lookup f_6 = some ⟨oc_6, od_6, .func (PySem.W.fnOf "_law_bush" "_law_bush" (defArgs st_law_bush) (defBody st_law_bush) (defScope st_law_bush) .none kV_6 dc_6 pm_6 an_6 cd_6 ct_6), sl_6⟩)
  (c_6 : PySem.W.codeIn K cd_6 "_law_bush" = true)
  (k_6 : PySem.W.keepIn K (.ref f_6) = true)
  (a_7 : PySem.W.nsIn K mainGlobals "_law_chain" = some (some (.ref f_7)))
  (l_7 : K.lookup f_7 = some ⟨oc_7, od_7, .func (PySem.W.fnOf "_law_chain" "_law_chain" (defArgs st_law_chain) (defBody st_law_chain) (defScope st_law_chain) .none kV_7 dc_7 pm_7 an_7 cd_7 ct_7), sl_7⟩)
  (c_7 : PySem.W.codeIn K cd_7 "_law_chain" = true)
  (k_7 : PySem.W.keepIn K (.ref f_7) = true)
  (a_8 : PySem.W.nsIn K mainGlobals "_law_wide_term" = some (some (.ref f_8)))
  (l_8 : K.lookup f_8 = some ⟨oc_8, od_8, .func (PySem.W.fnOf "_law_wide_term" "_law_wide_term" (defArgs st_law_wide_term) (defBody st_law_wide_term) (defScope st_law_wide_term) .none kV_8 dc_8 pm_8 an_8 cd_8 ct_8), sl_8⟩)
  (c_8 : PySem.W.codeIn K cd_8 "_law_wide_term" = true)
  (k_8 : PySem.W.keepIn K (.ref f_8) = true)
  (a_9 : PySem.W.nsIn K mainGlobals "_law_term" = some (some (.ref f_9)))
  (l_9 : K.lookup f_9 = some ⟨oc_9, od_9, .func (PySem.W.fnOf "_law_term" "_law_term" (defArgs st_law_term) (defBody st_law_term) (defScope st_law_term) .none kV_9 dc_9 pm_9 an_9 cd_9 ct_9), sl_9⟩)
  (c_9 : PySem.W.codeIn K cd_9 "_law_term" = true)
  (k_9 : PySem.W.keepIn K (.ref f_9) = true)
  (a_10 : PySem.W.nsIn K mainGlobals "_law_is_integer" = some (some (.ref f_10)))
  (l_10 : K.lookup f_10 = some ⟨oc_10, od_10, .func (PySem.W.fnOf "_law_is_integer" "_law_is_integer" (defArgs st_law_is_integer) (defBody st_law_is_integer) (defScope st_law_is_integer) .none kV_10 dc_10 pm_10 an_10 cd_10 ct_10), sl_10⟩)
  (c_10 : PySem.W.codeIn K cd_10 "_law_is_integer" = true)
  (k_10 : PySem.W.keepIn K (.ref f_10) = true)
  (a_11 : PySem.W.nsIn K mainGlobals "_law_same" = some (some (.ref f_11)))
  (l_11 : K.lookup f_11 = some ⟨oc_11, od_11, .func (PySem.W.fnOf "_law_same" "_law_same" (defArgs st_law_same) (defBody st_law_same) (defScope st_law_same) .none kV_11 dc_11 pm_11 an_11 cd_11 ct_11), sl_11⟩)
  (c_11 : PySem.W.codeIn K cd_11 "_law_same" = true)
  (k_11 : PySem.W.keepIn K (.ref f_11) = true)
  (a_12 : PySem.W.nsIn K mainGlobals "_law_same_term" = some (some (.ref f_12)))
  (l_12 : K.lookup f_12 = some ⟨oc_12, od_12, .func (PySem.W.fnOf "_law_same_term" "_law_same_term" (defArgs st_law_same_term) (defBody st_law_same_term) (defScope st_law_same_term) .none kV_12 dc_12 pm_12 an_12 cd_12 ct_12), sl_12⟩)
  (c_12 : PySem.W.codeIn K cd_12 "_law_same_term" = true)
  (k_12 : PySem.W.keepIn K (.ref f_12) = true)
  (a_13 : PySem.W.findIn K (.ref C0) "text" = some (some (.ref f_13)))
  (i_13 : PySem.W.isFn K (.ref f_13) = true)
  (l_13 : K.lookup f_13 = some ⟨oc_13, od_13, .func (PySem.W.fnOf "text" "Ratio.text" (defArgs st_Ratio_text) (defBody st_Ratio_text) (defScope st_Ratio_text) .none kV_13 dc_13 pm_13 an_13 cd_13 ct_13), sl_13⟩)
  (c_13 : PySem.W.codeIn K cd_13 "Ratio.text" = true)
  (k_13 : PySem.W.keepIn K (.ref f_13) = true)
  (a_14 : PySem.W.nsIn K mainGlobals "write_part" = some (some (.ref f_14)))
  (l_14 : K.lookup f_14 = some ⟨oc_14, od_14, .func (PySem.W.fnOf "write_part" "write_part" (defArgs st_write_part) (defBody st_write_part) (defScope st_write_part) .none kV_14 dc_14 pm_14 an_14 cd_14 ct_14), sl_14⟩)
  (c_14 : PySem.W.codeIn K cd_14 "write_part" = true)
  (k_14 : PySem.W.keepIn K (.ref f_14) = true)
  (a_15 : PySem.W.nsIn K mainGlobals "write_sum" = some (some (.ref f_15)))
  (l_15 : K.lookup f_15 = some ⟨oc_15, od_15, .func (PySem.W.fnOf "write_sum" "write_sum" (defArgs st_write_sum) (defBody st_write_sum) (defScope st_write_sum) .none kV_15 dc_15 pm_15 an_15 cd_15 ct_15), sl_15⟩)
  (c_15 : PySem.W.codeIn K cd_15 "write_sum" = true)
  (k_15 : PySem.W.keepIn K (.ref f_15) = true)
  (a_16 : PySem.W.nsIn K mainGlobals "shared_part" = some (some (.ref f_16)))
  (l_16 : K.lookup f_16 = some ⟨oc_16, od_16, .func (PySem.W.fnOf "shared_part" "shared_part" (defArgs st_shared_part) (defBody st_shared_part) (defScope st_shared_part) .none kV_16 dc_16 pm_16 an_16 cd_16 ct_16), sl_16⟩)
  (c_16 : PySem.W.codeIn K cd_16 "shared_part" = true)
  (k_16 : PySem.W.keepIn K (.ref f_16) = true)
  (a_17 : PySem.W.findIn K (.ref C0) "__init__" = some (some (.ref f_17)))
  (i_17 : PySem.W.isFn K (.ref f_17) = true)
  (l_17 : K.lookup f_17 = some ⟨oc_17, od_17, .func (PySem.W.fnOf "__init__" "Ratio.__init__" (defArgs st_Ratio_init) (defBody st_Ratio_init) (defScope st_Ratio_init) (.ref T_17) kV_17 dc_17 pm_17 an_17 cd_17 ct_17), sl_17⟩)
  (c_17 : PySem.W.codeIn K cd_17 "Ratio.__init__" = true)
  (k_17 : PySem.W.keepIn K (.ref f_17) = true)
  (z_17 : K.lookup T_17 = some ⟨oT_17, oe_17, .seq [.int 1 tk_17].toArray nT_17, sk_17⟩)
  (a_18 : PySem.W.nsIn K mainGlobals "_law_made" = some (some (.ref f_18)))
  (l_18 : K.lookup f_18 = some ⟨oc_18, od_18, .func (PySem.W.fnOf "_law_made" "_law_made" (defArgs st_law_made) (defBody st_law_made) (defScope st_law_made) .none kV_18 dc_18 pm_18 an_18 cd_18 ct_18), sl_18⟩)
  (c_18 : PySem.W.codeIn K cd_18 "_law_made" = true)
  (k_18 : PySem.W.keepIn K (.ref f_18) = true)
  (a_19 : PySem.W.nsIn K mainGlobals "_law_text" = some (some (.ref f_19)))
  (l_19 : K.lookup f_19 = some ⟨oc_19, od_19, .func (PySem.W.fnOf "_law_text" "_law_text" (defArgs st_law_text) (defBody st_law_text) (defScope st_law_text) .none kV_19 dc_19 pm_19 an_19 cd_19 ct_19), sl_19⟩)
  (c_19 : PySem.W.codeIn K cd_19 "_law_text" = true)
  (k_19 : PySem.W.keepIn K (.ref f_19) = true)
  (a_20 : PySem.W.nsIn K mainGlobals "_law_part" = some (some (.ref f_20)))
  (l_20 : K.lookup f_20 = some ⟨oc_20, od_20, .func (PySem.W.fnOf "_law_part" "_law_part" (defArgs st_law_part) (defBody st_law_part) (defScope st_law_part) .none kV_20 dc_20 pm_20 an_20 cd_20 ct_20), sl_20⟩)
  (c_20 : PySem.W.codeIn K cd_20 "_law_part" = true)
  (k_20 : PySem.W.keepIn K (.ref f_20) = true)
  (a_21 : PySem.W.nsIn K mainGlobals "_law_write" = some (some (.ref f_21)))
  (l_21 : K.lookup f_21 = some ⟨oc_21, od_21, .func (PySem.W.fnOf "_law_write" "_law_write" (defArgs st_law_write) (defBody st_law_write) (defScope st_law_write) .none kV_21 dc_21 pm_21 an_21 cd_21 ct_21), sl_21⟩)
  (c_21 : PySem.W.codeIn K cd_21 "_law_write" = true)
  (k_21 : PySem.W.keepIn K (.ref f_21) = true)
  (a_22 : PySem.W.nsIn K mainGlobals "law" = some (some (.ref f_22)))
  (l_22 : K.lookup f_22 = some ⟨oc_22, od_22, .func (PySem.W.fnOf "law" "law" (defArgs st_law) (defBody st_law) (defScope st_law) .none kV_22 dc_22 pm_22 an_22 cd_22 ct_22), sl_22⟩)
  (c_22 : PySem.W.codeIn K cd_22 "law" = true)
  (k_22 : PySem.W.keepIn K (.ref f_22) = true)
  (pg0 : PySem.W.plainGet K C0 Str.empty = true)
  (hd0 : PySem.W.hasDictIn K C0 = true)
  (po0 : PySem.W.plainOver K C0 = true)
  (sa0 : PySem.W.findIn K (.ref C0) "__setattr__" = some (some (.builtin "object.__setattr__")))
  (nf0_top : PySem.W.findIn K (.ref C0) "top" = some none)
  (nf0_bottom : PySem.W.findIn K (.ref C0) "bottom" = some none)
  (mk0 : PySem.W.makesIn K C0 = true)
  (kc0 : PySem.W.keepIn K (.ref C0) = true)
  (ha0 : PySem.W.findIn K (.ref C0) "__class__" = some (some (.builtin "object.__class__")))
  (hn0 : PySem.W.specialIn K (.builtin "object.__class__") "__get__" = some (some (.builtin "getset_descriptor.__get__")))
  (ht0 : PySem.W.takesIn K (.builtin "object.__class__") = some true)
  (hm0 : PySem.W.mroIn K C0 (.type "object") = some true)
  (xn_abs : PySem.W.nsIn K mainGlobals "abs" = some none)
  (xn_len : PySem.W.nsIn K mainGlobals "len" = some none)
  (xn_int : PySem.W.nsIn K mainGlobals "int" = some none)
  (xn_range : PySem.W.nsIn K mainGlobals "range" = some none)
  (xn_max : PySem.W.nsIn K mainGlobals "max" = some none)
  (xn_isinstance : PySem.W.nsIn K mainGlobals "isinstance" = some none)
  (xn_bool : PySem.W.nsIn K mainGlobals "bool" = some none)
  (xn_tuple : PySem.W.nsIn K mainGlobals "tuple" = some none)
  (xn_str : PySem.W.nsIn K mainGlobals "str" = some none)
  (aD_LEVELS : PySem.W.nsIn K mainGlobals "LEVELS" = some (some (.ref a_LEVELS)))
  (dW_LEVELS : K.lookup a_LEVELS = some ⟨.type "dict", none, .dict es_LEVELS n_LEVELS, #[]⟩)
  (dK_LEVELS : PySem.W.KeysLit w.params es_LEVELS.toList)
  (dS_LEVELS : (a_LEVELS == sysModules) = false)
  (e_LEVELS_0 : PySem.W.nsIn K a_LEVELS "plus" = some (some (.int 0 tk_LEVELS_0)))
  (e_LEVELS_1 : PySem.W.nsIn K a_LEVELS "row" = some (some (.int 1 tk_LEVELS_1)))
  (e_LEVELS_2 : PySem.W.nsIn K a_LEVELS "star" = some (some (.int 2 tk_LEVELS_2)))
  (e_LEVELS_3 : PySem.W.nsIn K a_LEVELS "number" = some (some (.int 3 tk_LEVELS_3)))
  (e_LEVELS_4 : PySem.W.nsIn K a_LEVELS "letter" = some (some (.int 3 tk_LEVELS_4))) :
    ∃ fd : FuncData, (∀ (s : Shared) (v : Value), BindsTo s fd ⟨[v], []⟩ [("script", v)]) ∧ ∀ base : Heap, K.In base → base.Ns mainGlobals mg → FnOk P w K mg base (L2.CX P w) 122 fa fd ["script"] (spLaw K) := by
  obtain ⟨G, hG⟩ : ∃ G : Gam, G = ⟨K, clsAt [(0, C0)], nmW⟩ := ⟨_, rfl⟩
  have hK : G.K = K := by rw [hG]
  subst hK
  have hnm : G.nm = nmW := by rw [hG]
  have e0 : G.cl 0 = C0 := by rw [hG]; rfl
  clear hG
  subst e0
  have n_abs := PySem.W.mg_none_of X Gn xn_abs
  have n_len := PySem.W.mg_none_of X Gn xn_len
  have n_int := PySem.W.mg_none_of X Gn xn_int
  have n_range := PySem.W.mg_none_of X Gn xn_range
  have n_max := PySem.W.mg_none_of X Gn xn_max
  have n_isinstance := PySem.W.mg_none_of X Gn xn_isinstance
  have n_bool := PySem.W.mg_none_of X Gn xn_bool
  have m_Ratio := PySem.W.mg_of X Gn aC0
  have n_tuple := PySem.W.mg_none_of X Gn xn_tuple
  have n_str := PySem.W.mg_none_of X Gn xn_str
  have m_LEVELS := PySem.W.mg_of X Gn aD_LEVELS
  have k0 : Cls G.K (G.cl 0) := ⟨pg0, hd0, po0, sa0⟩
  have cls0 : ClsOk G 0 := ⟨k0, by rw [hnm]; decide, by rw [hnm]; decide, by rw [hnm]; show ∀ f ∈ (["top", "bottom"] : List Str), NoAttr G.K (G.cl 0) f; intro f hf; rcases List.mem_cons.mp hf with rfl | hf; exact nf0_top; rcases List.mem_cons.mp hf with rfl | hf; exact nf0_bottom; cases hf⟩
  have ins0 : InsOk G 0 := ⟨k0, ha0, hn0, ht0, hm0⟩
  have kk_LEVELS : KDict G.K w a_LEVELS es_LEVELS n_LEVELS := ⟨dW_LEVELS, dK_LEVELS, dS_LEVELS⟩
  have k_LEVELS : KdOk G w a_LEVELS kd_LEVELS := kdOk_list (List.forall_mem_cons.mpr ⟨⟨_, kdct_int kk_LEVELS e_LEVELS_0, fun F => by unfold Rep; rfl⟩, List.forall_mem_cons.mpr ⟨⟨_, kdct_int kk_LEVELS e_LEVELS_1, fun F => by unfold Rep; rfl⟩, List.forall_mem_cons.mpr ⟨⟨_, kdct_int kk_LEVELS e_LEVELS_2, fun F => by unfold Rep; rfl⟩, List.forall_mem_cons.mpr ⟨⟨_, kdct_int kk_LEVELS e_LEVELS_3, fun F => by unfold Rep; rfl⟩, List.forall_mem_cons.mpr ⟨⟨_, kdct_int kk_LEVELS e_LEVELS_4, fun F => by unfold Rep; rfl⟩, fun _ z => nomatch z⟩⟩⟩⟩⟩)
  have D_law_feed : DefAt G.K mg "_law_feed" "_law_feed" st_law_feed ["script"] := defAt_mk X Gn a_0 l_0 c_0 k_0 (fun _ _ _ _ _ _ us hl => match us, hl with | [_], _ => rfl)
  have D_law_draw : DefAt G.K mg "_law_draw" "_law_draw" st_law_draw ["feed", "limit"] := defAt_mk X Gn a_1 l_1 c_1 k_1 (fun _ _ _ _ _ _ us hl => match us, hl with | [_, _], _ => rfl)
  have D_law_pair : DefAt G.K mg "_law_pair" "_law_pair" st_law_pair ["above", "below"] := defAt_mk X Gn a_2 l_2 c_2 k_2 (fun _ _ _ _ _ _ us hl => match us, hl with | [_, _], _ => rfl)
  have D_law_great : DefAt G.K mg "_law_great" "_law_great" st_law_great ["feed", "parts"] := defAt_mk X Gn a_3 l_3 c_3 k_3 (fun _ _ _ _ _ _ us hl => match us, hl with | [_, _], _ => rfl)
  have D_law_leaf : DefAt G.K mg "_law_leaf" "_law_leaf" st_law_leaf ["feed", "wide"] := defAt_mk X Gn a_4 l_4 c_4 k_4 (fun _ _ _ _ _ _ us hl => match us, hl with | [_, _], _ => rfl)
  have D_law_joined : DefAt G.K mg "_law_joined" "_law_joined" st_law_joined ["feed", "one", "two"] := defAt_mk X Gn a_5 l_5 c_5 k_5 (fun _ _ _ _ _ _ us hl => match us, hl with | [_, _, _], _ => rfl)
  have D_law_bush : DefAt G.K mg "_law_bush" "_law_bush" st_law_bush ["feed", "wide"] := defAt_mk X Gn a_6 l_6 c_6 k_6 (fun _ _ _ _ _ _ us hl => match us, hl with | [_, _], _ => rfl)
  have D_law_chain : DefAt G.K mg "_law_chain" "_law_chain" st_law_chain ["feed", "wide", "many"] := defAt_mk X Gn a_7 l_7 c_7 k_7 (fun _ _ _ _ _ _ us hl => match us, hl with | [_, _, _], _ => rfl)
  have D_law_wide_term : DefAt G.K mg "_law_wide_term" "_law_wide_term" st_law_wide_term ["feed", "wide"] := defAt_mk X Gn a_8 l_8 c_8 k_8 (fun _ _ _ _ _ _ us hl => match us, hl with | [_, _], _ => rfl)
  have D_law_term : DefAt G.K mg "_law_term" "_law_term" st_law_term ["feed"] := defAt_mk X Gn a_9 l_9 c_9 k_9 (fun _ _ _ _ _ _ us hl => match us, hl with | [_], _ => rfl)
  have D_law_is_integer : DefAt G.K mg "_law_is_integer" "_law_is_integer" st_law_is_integer ["actual"] := defAt_mk X Gn a_10 l_10 c_10 k_10 (fun _ _ _ _ _ _ us hl => match us, hl with | [_], _ => rfl)
  have D_law_same : DefAt G.K mg "_law_same" "_law_same" st_law_same ["actual", "due"] := defAt_mk X Gn a_11 l_11 c_11 k_11 (fun _ _ _ _ _ _ us hl => match us, hl with | [_, _], _ => rfl)
  have D_law_same_term : DefAt G.K mg "_law_same_term" "_law_same_term" st_law_same_term ["actual", "due"] := defAt_mk X Gn a_12 l_12 c_12 k_12 (fun _ _ _ _ _ _ us hl => match us, hl with | [_, _], _ => rfl)
  have D_Ratio_text : MetAt G.K (G.cl 0) "text" "Ratio.text" st_Ratio_text ["self"] := metAt_mk a_13 i_13 l_13 c_13 k_13 (fun _ _ _ _ _ _ us hl => match us, hl with | [_], _ => rfl)
  have D_write_part : DefAt G.K mg "write_part" "write_part" st_write_part ["term", "least"] := defAt_mk X Gn a_14 l_14 c_14 k_14 (fun _ _ _ _ _ _ us hl => match us, hl with | [_, _], _ => rfl)
  have D_write_sum : DefAt G.K mg "write_sum" "write_sum" st_write_sum ["term"] := defAt_mk X Gn a_15 l_15 c_15 k_15 (fun _ _ _ _ _ _ us hl => match us, hl with | [_], _ => rfl)
  have D_shared_part : DefAt G.K mg "shared_part" "shared_part" st_shared_part ["one", "other"] := defAt_mk X Gn a_16 l_16 c_16 k_16 (fun _ _ _ _ _ _ us hl => match us, hl with | [_, _], _ => rfl)
  have D_Ratio_init : IniAt G.K (G.cl 0) "Ratio.__init__" st_Ratio_init ["self", "top", "bottom"] [.int 1] := iniAt_mk1 (dv := .int 1) mk0 a_17 i_17 kc0 l_17 c_17 k_17 z_17 rfl ⟨_, rfl⟩ (fun T kV doc pm an cdv ct us its h1 h2 => match us, its, h1, h2 with | [_, _], [_], _, _ => ⟨_, rfl, rfl⟩) (fun T kV doc pm an cdv ct us its h1 h2 => match us, its, h1, h2 with | [_, _, _], [_], _, _ => ⟨_, rfl, rfl⟩) (by decide)
  have D_law_made : DefAt G.K mg "_law_made" "_law_made" st_law_made ["term"] := defAt_mk X Gn a_18 l_18 c_18 k_18 (fun _ _ _ _ _ _ us hl => match us, hl with | [_], _ => rfl)
  have D_law_text : DefAt G.K mg "_law_text" "_law_text" st_law_text ["one"] := defAt_mk X Gn a_19 l_19 c_19 k_19 (fun _ _ _ _ _ _ us hl => match us, hl with | [_], _ => rfl)
  have D_law_part : DefAt G.K mg "_law_part" "_law_part" st_law_part ["term", "barred"] := defAt_mk X Gn a_20 l_20 c_20 k_20 (fun _ _ _ _ _ _ us hl => match us, hl with | [_, _], _ => rfl)
  have D_law_write : DefAt G.K mg "_law_write" "_law_write" st_law_write ["term"] := defAt_mk X Gn a_21 l_21 c_21 k_21 (fun _ _ _ _ _ _ us hl => match us, hl with | [_], _ => rfl)
  have D_law : LawAt G.K mg "law" st_law ["script"] := lawAt_mk X Gn a_22 l_22 c_22 k_22 (fun _ _ _ _ _ _ us hl => match us, hl with | [_], _ => rfl)
  exact law_end hfa D_law sc_law fn_law_true fun base _ _ => all_ok hnm n_abs n_len n_int n_range n_max n_isinstance n_bool ins0 m_Ratio cls0 n_tuple n_str k_LEVELS m_LEVELS D_law_feed D_law_draw D_law_pair D_law_great D_law_leaf D_law_joined D_law_bush D_law_chain D_law_wide_term D_law_term D_law_is_integer D_law_same D_law_same_term D_Ratio_text D_write_part D_write_sum D_shared_part D_Ratio_init D_law_made D_law_text D_law_part D_law_write
end WW
end
open PySem PySem.W PyProof.Rows
set_option maxRecDepth 100000 in
set_option maxHeartbeats 0 in
theorem PySem.Challenge.cw_wordworth_k26_write_sum_holds : PySem.Challenge.rw_wordworth_k26_write_sum.Holds := by
  w_on; o_law; k_head; (case hw => w_witness2)
  k_fill
  refine DL.law_walk (l := PySem.Challenge.rw_wordworth_k26_write_sum) 122 ⟨rfl, by decide, by decide⟩ rfl rfl (fun w h Y => PySem.W.kIn_of Y) ?F
  case F =>
    intro w mg fa h KX Gn hmg
    refine' WW.all_mk KX Gn hmg ?aC0 ?a_0 ?l_0 ?c_0 ?k_0 ?a_1 ?l_1 ?c_1 ?k_1 ?a_2 ?l_2 ?c_2 ?k_2 ?a_3 ?l_3 ?c_3 ?k_3 ?a_4 ?l_4 ?c_4 ?k_4 ?a_5 ?l_5 ?c_5 ?k_5 ?a_6 ?l_6 ?c_6 ?k_6 ?a_7 ?l_7 ?c_7 ?k_7 ?a_8 ?l_8 ?c_8 ?k_8 ?a_9 ?l_9 ?c_9 ?k_9 ?a_10 ?l_10 ?c_10 ?k_10 ?a_11 ?l_11 ?c_11 ?k_11 ?a_12 ?l_12 ?c_12 ?k_12 ?a_13 ?i_13 ?l_13 ?c_13 ?k_13 ?a_14 ?l_14 ?c_14 ?k_14 ?a_15 ?l_15 ?c_15 ?k_15 ?a_16 ?l_16 ?c_16 ?k_16 ?a_17 ?i_17 ?l_17 ?c_17 ?k_17 ?z_17 ?a_18 ?l_18 ?c_18 ?k_18 ?a_19 ?l_19 ?c_19 ?k_19 ?a_20 ?l_20 ?c_20 ?k_20 ?a_21 ?l_21 ?c_21 ?k_21 ?a_22 ?l_22 ?c_22 ?k_22 ?pg0 ?hd0 ?po0 ?sa0 ?nf0_top ?nf0_bottom ?mk0 ?kc0 ?ha0 ?hn0 ?ht0 ?hm0 ?xn_abs ?xn_len ?xn_int ?xn_range ?xn_max ?xn_isinstance ?xn_bool ?xn_tuple ?xn_str ?aD_LEVELS ?dW_LEVELS ?dK_LEVELS ?dS_LEVELS ?e_LEVELS_0 ?e_LEVELS_1 ?e_LEVELS_2 ?e_LEVELS_3 ?e_LEVELS_4
    (case aC0 => k_is); (case a_0 => k_is); (case l_0 => k_is); (case c_0 => k_is); (case k_0 => k_is); (case a_1 => k_is)
    (case l_1 => k_is); (case c_1 => k_is); (case k_1 => k_is); (case a_2 => k_is); (case l_2 => k_is); (case c_2 => k_is)
    (case k_2 => k_is); (case a_3 => k_is); (case l_3 => k_is); (case c_3 => k_is); (case k_3 => k_is); (case a_4 => k_is)
    (case l_4 => k_is); (case c_4 => k_is); (case k_4 => k_is); (case a_5 => k_is); (case l_5 => k_is); (case c_5 => k_is)
    (case k_5 => k_is); (case a_6 => k_is); (case l_6 => k_is); (case c_6 => k_is); (case k_6 => k_is); (case a_7 => k_is)
    (case l_7 => k_is); (case c_7 => k_is); (case k_7 => k_is); (case a_8 => k_is); (case l_8 => k_is); (case c_8 => k_is)
    (case k_8 => k_is); (case a_9 => k_is); (case l_9 => k_is); (case c_9 => k_is); (case k_9 => k_is); (case a_10 => k_is)
    (case l_10 => k_is); (case c_10 => k_is); (case k_10 => k_is); (case a_11 => k_is); (case l_11 => k_is); (case c_11 => k_is)
    (case k_11 => k_is); (case a_12 => k_is); (case l_12 => k_is); (case c_12 => k_is); (case k_12 => k_is); (case a_13 => k_is)
    (case i_13 => k_is); (case l_13 => k_is); (case c_13 => k_is); (case k_13 => k_is); (case a_14 => k_is); (case l_14 => k_is)
    (case c_14 => k_is); (case k_14 => k_is); (case a_15 => k_is); (case l_15 => k_is); (case c_15 => k_is); (case k_15 => k_is)
    (case a_16 => k_is); (case l_16 => k_is); (case c_16 => k_is); (case k_16 => k_is); (case a_17 => k_is); (case i_17 => k_is)
    (case l_17 => k_is); (case c_17 => k_is); (case k_17 => k_is); (case z_17 => k_is); (case a_18 => k_is); (case l_18 => k_is)
    (case c_18 => k_is); (case k_18 => k_is); (case a_19 => k_is); (case l_19 => k_is); (case c_19 => k_is); (case k_19 => k_is)
    (case a_20 => k_is); (case l_20 => k_is); (case c_20 => k_is); (case k_20 => k_is); (case a_21 => k_is); (case l_21 => k_is)
    (case c_21 => k_is); (case k_21 => k_is); (case a_22 => k_is); (case l_22 => k_is); (case c_22 => k_is); (case k_22 => k_is)
    (case pg0 => k_is); (case hd0 => k_is); (case po0 => k_is); (case sa0 => k_is); (case nf0_top => k_is); (case nf0_bottom => k_is)
    (case mk0 => k_is); (case kc0 => k_is); (case ha0 => k_is); (case hn0 => k_is); (case ht0 => k_is); (case hm0 => k_is)
    (case xn_abs => k_is); (case xn_len => k_is); (case xn_int => k_is); (case xn_range => k_is); (case xn_max => k_is); (case xn_isinstance => k_is)
    (case xn_bool => k_is); (case xn_tuple => k_is); (case xn_str => k_is); (case aD_LEVELS => k_is); (case dW_LEVELS => k_is); (case dK_LEVELS => exact ⟨⟨_, _, rfl, rfl⟩, ⟨_, _, rfl, rfl⟩, ⟨_, _, rfl, rfl⟩, ⟨_, _, rfl, rfl⟩, ⟨_, _, rfl, rfl⟩, trivial⟩)
    (case dS_LEVELS => rfl); (case e_LEVELS_0 => k_is); (case e_LEVELS_1 => k_is); (case e_LEVELS_2 => k_is); (case e_LEVELS_3 => k_is); (case e_LEVELS_4 => k_is)
#print axioms PySem.Challenge.cw_wordworth_k26_write_sum_holds
