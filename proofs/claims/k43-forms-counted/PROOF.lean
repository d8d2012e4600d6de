import PyProof.Rows.All
import Wide.All
import OpenK.AllK
import Wide.FinOn
import HandS.ForMost
import HandS.Exc
import HandS.ForExc
import HandS.Style
import HandS.SortInts
import HandS.IsInst
import PyProof.AutoSeq1
import PyProof.Rows.ListMulArg
import PyProof.ReprRoads
import HandS.RaiseMore
import HandS.SetKeys
import HandS.EndBits
import PySem.Challenge.RW_namelike_k43_forms_counted
set_option Elab.async false
set_option linter.all false
set_option maxRecDepth 100000
/-! VL1: data, their places in a heap, roots -/
namespace VL
open PySem L2

abbrev D := PyData
def keyD : Key → D
  | .inl i => .int i
  | .inr x => .str x
def tkeyD (k : List Key) : D := .tuple (k.map keyD)
def flat : D → Bool
  | .list _ => false
  | .tuple _ => false
  | .dict _ => false
  | _ => true

/-- a dict's object: keys ks (data), values vs; where the keys are tuples, an entry None, None is written ahead -/
def DObj (R : HO → Prop) (ks : List D) (vs : List V) : Prop :=
  (∃ q : List Key, ks = q.map keyD ∧ q.length = vs.length ∧ R (.dK (q.zip vs))) ∨
  (∃ (q : List (List Key)) (us : List V), ks = .none :: q.map tkeyD ∧ vs = .non :: us ∧ q.length = us.length ∧ R (.dT (q.zip us)))
theorem DObj.mono {R R' : HO → Prop} {ks : List D} {vs : List V} (h : DObj R ks vs) (f : ∀ o, R o → R' o) : DObj R' ks vs := by
  rcases h with ⟨q, a, b, c⟩ | ⟨q, us, a, a', b, c⟩
  · exact .inl ⟨q, a, b, f _ c⟩
  · exact .inr ⟨q, us, a, a', b, f _ c⟩

mutual
/-- v is the datum d; its objects stand in G -/
def Rep (K : PySem.W.Frag) (G : Hp) : D → V → Prop
  | .none, v => v = .non
  | .bool b, v => v = .bl b
  | .int i, v => v = .int i
  | .str x, v => v = .str x
  | .list ds, v => ∃ a vs, v = .ref a ∧ SqL K G a vs ∧ RepL K G ds vs
  | .tuple ds, v => ∃ a vs, v = .ref a ∧ G a = some (.tup vs) ∧ RepL K G ds vs
  | .dict kvs, v => ∃ a vs, v = .ref a ∧ DObj (Rd G a) (kvs.map (·.1)) vs ∧ RepKV K G kvs vs
def RepL (K : PySem.W.Frag) (G : Hp) : List D → List V → Prop
  | [], vs => vs = []
  | d :: ds, vs => ∃ v r, vs = v :: r ∧ Rep K G d v ∧ RepL K G ds r
def RepKV (K : PySem.W.Frag) (G : Hp) : List (D × D) → List V → Prop
  | [], vs => vs = []
  | (_, d) :: kvs, vs => ∃ v r, vs = v :: r ∧ Rep K G d v ∧ RepKV K G kvs r
end

/-- G's objects stand in H (a dict perhaps locked) -/
def Le (G H : Hp) : Prop := ∀ b o, G b = some o → H b = some o ∨ (((∃ k, o = .dK k) ∨ ∃ k, o = .dT k) ∧ ∃ ob, H b = some (.frz ob o))
theorem Le.refl (H : Hp) : Le H H := fun _ _ h => .inl h
theorem Le.trans {G H J : Hp} (a : Le G H) (b : Le H J) : Le G J := fun c o h => by
  rcases a c o h with h1 | ⟨hd, ob, h1⟩
  · exact b c o h1
  · rcases b c _ h1 with h2 | ⟨hd2, ob2, h2⟩
    · exact .inr ⟨hd, ob, h2⟩
    · rcases hd2 with ⟨k, e⟩ | ⟨k, e⟩ <;> cases e
def Grow (H H' : Hp) : Prop := ∀ b o, H b = some o → H' b = some o
theorem Grow.refl (H : Hp) : Grow H H := fun _ _ h => h
theorem Grow.trans {G H J : Hp} (a : Grow G H) (b : Grow H J) : Grow G J := fun c o h => b c o (a c o h)
theorem Grow.le {G H : Hp} (a : Grow G H) : Le G H := fun b o h => .inl (a b o h)
theorem Grow.new {H : Hp} {p : Addr} {o : HO} (h : H p = none) : Grow H (upd H p o) := fun b u e => by
  rw [upd_ne (ne_of_none e h)]; exact e
theorem Le.none {G H : Hp} {a : Addr} (l : Le G H) (h : H a = none) : G a = none := by
  cases e : G a with
  | none => rfl
  | some o =>
    rcases l a o e with h1 | ⟨_, ob, h1⟩ <;> (rw [h] at h1; cases h1)
theorem Le.rdL {G H : Hp} {a : Addr} {xs : List V} (l : Le G H) (h : Rd G a (.lst xs)) : Rd H a (.lst xs) := by
  rcases h with h | ⟨o, h⟩
  · rcases l a _ h with h1 | ⟨⟨k, e⟩ | ⟨k, e⟩, _⟩
    · exact .inl h1
    · cases e
    · cases e
  · rcases l a _ h with h1 | ⟨⟨k, e⟩ | ⟨k, e⟩, _⟩
    · exact .inr ⟨o, h1⟩
    · cases e
    · cases e
theorem Le.rdT {G H : Hp} {a : Addr} {xs : List V} (l : Le G H) (h : Rd G a (.tup xs)) : Rd H a (.tup xs) := by
  rcases h with h | ⟨o, h⟩
  · rcases l a _ h with h1 | ⟨⟨k, e⟩ | ⟨k, e⟩, _⟩
    · exact .inl h1
    · cases e
    · cases e
  · rcases l a _ h with h1 | ⟨⟨k, e⟩ | ⟨k, e⟩, _⟩
    · exact .inr ⟨o, h1⟩
    · cases e
    · cases e
theorem Le.rdD {G H : Hp} {a : Addr} {o : HO} (l : Le G H) (h : Rd G a o) : Rd H a o := by
  rcases h with h | ⟨ob, h⟩
  · rcases l a _ h with h1 | ⟨_, ob, h1⟩
    · exact .inl h1
    · exact .inr ⟨ob, h1⟩
  · rcases l a _ h with h1 | ⟨⟨k, e⟩ | ⟨k, e⟩, _⟩
    · exact .inr ⟨ob, h1⟩
    · cases e
    · cases e
theorem Le.tup {G H : Hp} {a : Addr} {xs : List V} (l : Le G H) (h : G a = some (.tup xs)) : H a = some (.tup xs) := by
  rcases l a _ h with h1 | ⟨⟨k, e⟩ | ⟨k, e⟩, _⟩
  · exact h1
  · cases e
  · cases e
theorem Le.sqL {K : PySem.W.Frag} {G H : Hp} {a : Addr} {xs : List V} (l : Le G H) (h : SqL K G a xs) : SqL K H a xs := by
  rcases h with h | h
  · exact .inl (l.rdL h)
  · exact .inr h
theorem Le.sqT {K : PySem.W.Frag} {G H : Hp} {a : Addr} {xs : List V} (l : Le G H) (h : SqT K G a xs) : SqT K H a xs := by
  rcases h with h | h
  · exact .inl (l.rdT h)
  · exact .inr h

section
variable {K : PySem.W.Frag} {G H G' H' : Hp}
mutual
theorem Rep.mono (l : Le G H) : ∀ {d : D} {v : V}, Rep K G d v → Rep K H d v
  | .none, _, h => by simpa only [Rep] using h
  | .bool _, _, h => by simpa only [Rep] using h
  | .int _, _, h => by simpa only [Rep] using h
  | .str _, _, h => by simpa only [Rep] using h
  | .list ds, v, h => by
    rw [Rep] at h ⊢
    obtain ⟨a, vs, e, s, r⟩ := h
    exact ⟨a, vs, e, l.sqL s, RepL.mono l r⟩
  | .tuple ds, v, h => by
    rw [Rep] at h ⊢
    obtain ⟨a, vs, e, s, r⟩ := h
    exact ⟨a, vs, e, l.tup s, RepL.mono l r⟩
  | .dict kvs, v, h => by
    rw [Rep] at h ⊢
    obtain ⟨a, vs, e, s, r⟩ := h
    exact ⟨a, vs, e, s.mono fun o => l.rdD, RepKV.mono l r⟩
theorem RepL.mono (l : Le G H) : ∀ {ds : List D} {vs : List V}, RepL K G ds vs → RepL K H ds vs
  | [], _, h => by simpa only [RepL] using h
  | d :: ds, vs, h => by
    rw [RepL] at h ⊢
    obtain ⟨v, r, e, h1, h2⟩ := h
    exact ⟨v, r, e, Rep.mono l h1, RepL.mono l h2⟩
theorem RepKV.mono (l : Le G H) : ∀ {ds : List (D × D)} {vs : List V}, RepKV K G ds vs → RepKV K H ds vs
  | [], _, h => by simpa only [RepKV] using h
  | (_, d) :: ds, vs, h => by
    rw [RepKV] at h ⊢
    obtain ⟨v, r, e, h1, h2⟩ := h
    exact ⟨v, r, e, Rep.mono l h1, RepKV.mono l h2⟩
end
theorem repKV_iff : ∀ {kvs : List (D × D)} {vs : List V}, RepKV K G kvs vs ↔ RepL K G (kvs.map (·.2)) vs
  | [], _ => by simp [RepKV, RepL]
  | (k, d) :: r, vs => by
    simp only [RepKV, RepL, List.map_cons]
    constructor
    · rintro ⟨v, q, e, h1, h2⟩; exact ⟨v, q, e, h1, repKV_iff.mp h2⟩
    · rintro ⟨v, q, e, h1, h2⟩; exact ⟨v, q, e, h1, repKV_iff.mpr h2⟩
theorem RepL.length : ∀ {ds : List D} {vs : List V}, RepL K G ds vs → ds.length = vs.length
  | [], _, h => by rw [RepL] at h; subst h; rfl
  | d :: ds, vs, h => by
    rw [RepL] at h
    obtain ⟨v, r, rfl, _, h2⟩ := h
    simp [RepL.length h2]
theorem RepL.get : ∀ {ds : List D} {vs : List V} {i : Nat} {d : D}, RepL K G ds vs → ds[i]? = some d → ∃ v, vs[i]? = some v ∧ Rep K G d v
  | [], _, i, d, _, e => by simp at e
  | d0 :: ds, vs, i, d, h, e => by
    rw [RepL] at h
    obtain ⟨v, r, rfl, h1, h2⟩ := h
    cases i with
    | zero => simp at e; subst e; exact ⟨v, rfl, h1⟩
    | succ i =>
      obtain ⟨u, h3, h4⟩ := RepL.get (i := i) h2 (by simpa using e)
      exact ⟨u, by simpa using h3, h4⟩
theorem RepL.get' {ds : List D} {vs : List V} {i : Nat} {v : V} (h : RepL K G ds vs) (e : vs[i]? = some v) : ∃ d, ds[i]? = some d ∧ Rep K G d v := by
  have hl := h.length
  obtain ⟨hi, _⟩ := List.getElem?_eq_some_iff.mp e
  have hi' : i < ds.length := by omega
  obtain ⟨u, h1, h2⟩ := h.get (List.getElem?_eq_getElem hi')
  rw [e] at h1; cases h1
  exact ⟨_, List.getElem?_eq_getElem hi', h2⟩
theorem RepL.append : ∀ {ds es : List D} {vs us : List V}, RepL K G ds vs → RepL K G es us → RepL K G (ds ++ es) (vs ++ us)
  | [], es, vs, us, h, h' => by rw [RepL] at h; subst h; simpa using h'
  | d :: ds, es, vs, us, h, h' => by
    rw [RepL] at h
    obtain ⟨v, r, rfl, h1, h2⟩ := h
    show RepL K G (d :: (ds ++ es)) _
    rw [RepL]
    exact ⟨v, r ++ us, rfl, h1, RepL.append h2 h'⟩
theorem RepL.take : ∀ (n : Nat) {ds : List D} {vs : List V}, RepL K G ds vs → RepL K G (ds.take n) (vs.take n)
  | 0, _, _, _ => by simp [RepL]
  | n + 1, [], _, h => by rw [RepL] at h; subst h; simp [RepL]
  | n + 1, d :: ds, vs, h => by
    rw [RepL] at h
    obtain ⟨v, r, rfl, h1, h2⟩ := h
    rw [List.take_succ_cons, List.take_succ_cons, RepL]
    exact ⟨v, _, rfl, h1, RepL.take n h2⟩
theorem RepL.drop : ∀ (n : Nat) {ds : List D} {vs : List V}, RepL K G ds vs → RepL K G (ds.drop n) (vs.drop n)
  | 0, _, _, h => by simpa using h
  | n + 1, [], _, h => by rw [RepL] at h; subst h; simp [RepL]
  | n + 1, d :: ds, vs, h => by
    rw [RepL] at h
    obtain ⟨v, r, rfl, h1, h2⟩ := h
    rw [List.drop_succ_cons, List.drop_succ_cons]
    exact RepL.drop n h2
theorem RepL.reverse : ∀ {ds : List D} {vs : List V}, RepL K G ds vs → RepL K G ds.reverse vs.reverse
  | [], _, h => by rw [RepL] at h; subst h; simp [RepL]
  | d :: ds, vs, h => by
    rw [RepL] at h
    obtain ⟨v, r, rfl, h1, h2⟩ := h
    rw [List.reverse_cons, List.reverse_cons]
    exact RepL.append (RepL.reverse h2) (by rw [RepL]; exact ⟨v, [], rfl, h1, by rw [RepL]⟩)
theorem RepL.one {d : D} {v : V} (h : Rep K G d v) : RepL K G [d] [v] := by
  rw [RepL]; exact ⟨v, [], rfl, h, by rw [RepL]⟩
theorem RepL.cons {d : D} {v : V} {ds : List D} {vs : List V} (h : Rep K G d v) (t : RepL K G ds vs) : RepL K G (d :: ds) (v :: vs) := by
  rw [RepL]; exact ⟨v, vs, rfl, h, t⟩
theorem RepL.nil : RepL K G [] [] := by rw [RepL]
theorem rep_flat {d : D} {v : V} (hf : flat d = true) (h : Rep K G d v) : Rep K G' d v := by
  cases d <;> first | (rw [Rep] at h ⊢; exact h) | (simp [flat] at hf)

/-- the parts of a list of data -/
inductive OwnL (R : D → V → List Addr → Prop) : List D → List V → List Addr → Prop
  | nil : OwnL R [] [] []
  | cons {d v f ds vs fs} : R d v f → OwnL R ds vs fs → OwnL R (d :: ds) (v :: vs) (f ++ fs)
theorem OwnL.imp {R R' : D → V → List Addr → Prop} : ∀ {ds : List D} {vs : List V} {fs : List Addr}, OwnL R ds vs fs → (∀ d v f, (∀ a ∈ f, a ∈ fs) → R d v f → R' d v f) → OwnL R' ds vs fs
  | _, _, _, .nil, _ => .nil
  | _, _, _, .cons h t, k => .cons (k _ _ _ (fun a ha => List.mem_append_left _ ha) h) (OwnL.imp t fun d v f hs hr => k d v f (fun a ha => List.mem_append_right _ (hs a ha)) hr)
theorem OwnL.length {R : D → V → List Addr → Prop} : ∀ {ds : List D} {vs : List V} {fs : List Addr}, OwnL R ds vs fs → ds.length = vs.length
  | _, _, _, .nil => rfl
  | _, _, _, .cons _ t => by simp [OwnL.length t]
/-- owned to the depth k: exactly the containers at the addresses f are ours alone -/
def Own (K : PySem.W.Frag) (G H : Hp) : Nat → D → V → List Addr → Prop
  | 0, d, v, f => f = [] ∧ Rep K G d v
  | k + 1, .list ds, v, f => ∃ a vs fs, v = .ref a ∧ f = a :: fs ∧ H a = some (.lst vs) ∧ OwnL (Own K G H k) ds vs fs
  | k + 1, .tuple ds, v, f => ∃ a vs, v = .ref a ∧ G a = some (.tup vs) ∧ OwnL (Own K G H k) ds vs f
  | k + 1, .dict kvs, v, f => ∃ a vs fs, v = .ref a ∧ f = a :: fs ∧ DObj (fun o => H a = some o) (kvs.map (·.1)) vs ∧ OwnL (Own K G H k) (kvs.map (·.2)) vs fs
  | _ + 1, d, v, f => f = [] ∧ Rep K G d v
theorem own_flat {d : D} {v : V} (hf : flat d = true) : ∀ {k : Nat} {f : List Addr}, Own K G H k d v f ↔ (f = [] ∧ Rep K G d v)
  | 0, f => Iff.rfl
  | k + 1, f => by cases d <;> first | exact Iff.rfl | (simp [flat] at hf)
theorem OwnL.zero : ∀ {ds : List D} {vs : List V} {fs : List Addr}, OwnL (Own K G H 0) ds vs fs ↔ (fs = [] ∧ RepL K G ds vs)
  | [], vs, fs => ⟨fun h => by cases h; exact ⟨rfl, RepL.nil⟩, fun ⟨e, h⟩ => by rw [RepL] at h; subst e; subst h; exact .nil⟩
  | d :: ds, vs, fs => by
    constructor
    · intro h
      cases h with
      | cons h t =>
        obtain ⟨e, h⟩ := h
        obtain ⟨e2, h2⟩ := OwnL.zero.mp t
        subst e; subst e2
        exact ⟨rfl, RepL.cons h h2⟩
    · rintro ⟨e, h⟩
      rw [RepL] at h
      obtain ⟨v, r, rfl, h1, h2⟩ := h
      subst e
      exact OwnL.cons (f := []) (fs := []) ⟨rfl, h1⟩ (OwnL.zero.mpr ⟨rfl, h2⟩)
theorem Own.cong (l : Le G G') : ∀ {k : Nat} {d : D} {v : V} {f : List Addr}, (∀ a ∈ f, ∀ o, H a = some o → H' a = some o) → Own K G H k d v f → Own K G' H' k d v f := by
  intro k
  induction k with
  | zero => intro d v f _ h; exact ⟨h.1, h.2.mono l⟩
  | succ k ih =>
    intro d v f hk h
    by_cases hf : flat d = true
    · obtain ⟨e, h⟩ := (own_flat hf).mp h
      exact (own_flat hf).mpr ⟨e, h.mono l⟩
    · cases d with
      | list ds =>
        obtain ⟨a, vs, fs, e, e2, ha, ho⟩ := h
        subst e2
        exact ⟨a, vs, fs, e, rfl, hk a List.mem_cons_self _ ha, ho.imp fun d v f hs hr => ih (fun b hb o q => hk b (List.mem_cons_of_mem _ (hs b hb)) o q) hr⟩
      | tuple ds =>
        obtain ⟨a, vs, e, ha, ho⟩ := h
        exact ⟨a, vs, e, l.tup ha, ho.imp fun d v f hs hr => ih (fun b hb o q => hk b (hs b hb) o q) hr⟩
      | dict kvs =>
        obtain ⟨a, vs, fs, e, e2, ha, ho⟩ := h
        subst e2
        exact ⟨a, vs, fs, e, rfl, ha.mono fun o q => hk a List.mem_cons_self _ q, ho.imp fun d v f hs hr => ih (fun b hb o q => hk b (List.mem_cons_of_mem _ (hs b hb)) o q) hr⟩
      | _ => simp [flat] at hf
theorem perm4 {α : Type} {a b c d : List α} : ((a ++ b) ++ (c ++ d)).Perm ((a ++ c) ++ (b ++ d)) := by
  rw [List.append_assoc, List.append_assoc]
  refine List.Perm.append_left a ?_
  rw [← List.append_assoc, ← List.append_assoc]
  exact List.Perm.append_right d List.perm_append_comm
/-- freezing: the addresses f2 go into the frozen part -/
theorem OwnL.lower {R : D → V → List Addr → Prop} {S : Hp → D → V → List Addr → Prop} {G H : Hp} : ∀ {ds : List D} {vs : List V} {f : List Addr}, OwnL R ds vs f →
    (∀ d v f, R d v f → ∃ f1 f2, f.Perm (f1 ++ f2) ∧ ∀ G', Le G G' → (∀ a ∈ f2, ∀ o, H a = some o → G' a = some o) → S G' d v f1) →
    ∃ f1 f2, f.Perm (f1 ++ f2) ∧ ∀ G', Le G G' → (∀ a ∈ f2, ∀ o, H a = some o → G' a = some o) → OwnL (S G') ds vs f1
  | _, _, _, .nil, _ => ⟨[], [], List.Perm.refl _, fun _ _ _ => .nil⟩
  | _, _, _, .cons h t, k => by
    obtain ⟨a1, a2, p, q⟩ := k _ _ _ h
    obtain ⟨b1, b2, p', q'⟩ := OwnL.lower t k
    exact ⟨a1 ++ b1, a2 ++ b2, (p.append p').trans perm4, fun G' l hG => .cons (q G' l fun a ha => hG a (List.mem_append_left _ ha)) (q' G' l fun a ha => hG a (List.mem_append_right _ ha))⟩
theorem Own.lower : ∀ {k j : Nat} {d : D} {v : V} {f : List Addr}, j ≤ k → Own K G H k d v f → ∃ f1 f2, f.Perm (f1 ++ f2) ∧ ∀ G', Le G G' → (∀ a ∈ f2, ∀ o, H a = some o → G' a = some o) → Own K G' H j d v f1 := by
  intro k
  induction k with
  | zero =>
    intro j d v f hj h
    obtain rfl : j = 0 := by omega
    obtain ⟨e, h⟩ := h
    exact ⟨[], [], by rw [e]; exact List.Perm.refl _, fun G' l _ => ⟨rfl, h.mono l⟩⟩
  | succ k ih =>
    intro j d v f hj h
    by_cases hf : flat d = true
    · obtain ⟨e, h⟩ := (own_flat hf).mp h
      exact ⟨[], [], by rw [e]; exact List.Perm.refl _, fun G' l _ => (own_flat hf).mpr ⟨rfl, h.mono l⟩⟩
    · cases j with
      | zero =>
        cases d with
        | list ds =>
          obtain ⟨a, vs, fs, e, e2, ha, ho⟩ := h
          obtain ⟨f1, f2, p, q⟩ := OwnL.lower (S := fun G' => Own K G' H 0) (G := G) (H := H) ho fun d v f hr => ih (Nat.zero_le _) hr
          subst e2
          refine ⟨[], a :: fs, List.Perm.refl _, fun G' l hG => ⟨rfl, ?_⟩⟩
          rw [Rep]
          have q1 := OwnL.zero.mp (q G' l fun b hb o e => hG b (List.mem_cons_of_mem _ (p.mem_iff.mpr (List.mem_append_right _ hb))) o e)
          exact ⟨a, vs, e, SqL.of (hG a List.mem_cons_self _ ha), q1.2⟩
        | tuple ds =>
          obtain ⟨a, vs, e, ha, ho⟩ := h
          obtain ⟨f1, f2, p, q⟩ := OwnL.lower (S := fun G' => Own K G' H 0) (G := G) (H := H) ho fun d v f hr => ih (Nat.zero_le _) hr
          refine ⟨[], f, List.Perm.refl _, fun G' l hG => ⟨rfl, ?_⟩⟩
          rw [Rep]
          have q1 := OwnL.zero.mp (q G' l fun b hb o e => hG b (p.mem_iff.mpr (List.mem_append_right _ hb)) o e)
          exact ⟨a, vs, e, l.tup ha, q1.2⟩
        | dict kvs =>
          obtain ⟨a, vs, fs, e, e2, ha, ho⟩ := h
          obtain ⟨f1, f2, p, q⟩ := OwnL.lower (S := fun G' => Own K G' H 0) (G := G) (H := H) ho fun d v f hr => ih (Nat.zero_le _) hr
          subst e2
          refine ⟨[], a :: fs, List.Perm.refl _, fun G' l hG => ⟨rfl, ?_⟩⟩
          rw [Rep]
          have q1 := OwnL.zero.mp (q G' l fun b hb o e => hG b (List.mem_cons_of_mem _ (p.mem_iff.mpr (List.mem_append_right _ hb))) o e)
          exact ⟨a, vs, e, ha.mono fun o q => .inl (hG a List.mem_cons_self _ q), repKV_iff.mpr q1.2⟩
        | _ => simp [flat] at hf
      | succ j =>
        cases d with
        | list ds =>
          obtain ⟨a, vs, fs, e, e2, ha, ho⟩ := h
          obtain ⟨f1, f2, p, q⟩ := OwnL.lower (S := fun G' => Own K G' H j) (G := G) (H := H) ho fun d v f hr => ih (by omega) hr
          subst e2
          exact ⟨a :: f1, f2, p.cons a, fun G' l hG => ⟨a, vs, f1, e, rfl, ha, q G' l hG⟩⟩
        | tuple ds =>
          obtain ⟨a, vs, e, ha, ho⟩ := h
          obtain ⟨f1, f2, p, q⟩ := OwnL.lower (S := fun G' => Own K G' H j) (G := G) (H := H) ho fun d v f hr => ih (by omega) hr
          exact ⟨f1, f2, p, fun G' l hG => ⟨a, vs, e, l.tup ha, q G' l hG⟩⟩
        | dict kvs =>
          obtain ⟨a, vs, fs, e, e2, ha, ho⟩ := h
          obtain ⟨f1, f2, p, q⟩ := OwnL.lower (S := fun G' => Own K G' H j) (G := G) (H := H) ho fun d v f hr => ih (by omega) hr
          subst e2
          exact ⟨a :: f1, f2, p.cons a, fun G' l hG => ⟨a, vs, f1, e, rfl, ha, q G' l hG⟩⟩
        | _ => simp [flat] at hf
theorem Own.there : ∀ {k : Nat} {d : D} {v : V} {f : List Addr}, Own K G H k d v f → ∀ a ∈ f, ∃ o, H a = some o := by
  intro k
  induction k with
  | zero => intro d v f h a ha; rw [h.1] at ha; cases ha
  | succ k ih =>
    have all : ∀ {ds : List D} {vs : List V} {fs : List Addr}, OwnL (Own K G H k) ds vs fs → ∀ a ∈ fs, ∃ o, H a = some o := by
      intro ds vs fs h
      induction h with
      | nil => intro a ha; cases ha
      | cons h t iht =>
        intro a ha
        rcases List.mem_append.mp ha with q | q
        · exact ih h a q
        · exact iht a q
    intro d v f h a ha
    by_cases hf : flat d = true
    · rw [((own_flat hf).mp h).1] at ha; cases ha
    · cases d with
      | list ds =>
        obtain ⟨b, vs, fs, e, e2, hb, ho⟩ := h
        subst e2
        rcases List.mem_cons.mp ha with q | q
        · rw [q]; exact ⟨_, hb⟩
        · exact all ho a q
      | tuple ds =>
        obtain ⟨b, vs, e, hb, ho⟩ := h
        exact all ho a ha
      | dict kvs =>
        obtain ⟨b, vs, fs, e, e2, hb, ho⟩ := h
        subst e2
        rcases List.mem_cons.mp ha with q | q
        · rw [q]
          rcases hb with ⟨_, _, _, z⟩ | ⟨_, _, _, _, _, z⟩ <;> exact ⟨_, z⟩
        · exact all ho a q
      | _ => simp [flat] at hf
end

/-! ### roots -/
inductive Root where
  | val (k : Nat) (d : D) (v : V)
  | blk (as : List (Addr × HO))
def OwnR (K : PySem.W.Frag) (G H : Hp) : Root → List Addr → Prop
  | .val k d v, f => Own K G H k d v f
  | .blk as, f => f = as.map (·.1) ∧ ∀ p ∈ as, H p.1 = some p.2
inductive OwnRs (K : PySem.W.Frag) (G H : Hp) : List Root → List Addr → Prop
  | nil : OwnRs K G H [] []
  | cons {r f rs fs} : OwnR K G H r f → OwnRs K G H rs fs → OwnRs K G H (r :: rs) (f ++ fs)
def RelR (K : PySem.W.Frag) (H G : Hp) (R : List Root) : Prop := ∃ f, OwnRs K G H R f ∧ f.Nodup ∧ (∀ a ∈ f, G a = none) ∧ Le G H
def vals (k : Nat) : List D → List V → List Root
  | d :: ds, v :: vs => .val k d v :: vals k ds vs
  | _, _ => []

section
variable {K : PySem.W.Frag} {G H G' H' : Hp} {R R' S : List Root}
theorem OwnR.cong (l : Le G G') {r : Root} {f : List Addr} (hk : ∀ a ∈ f, ∀ o, H a = some o → H' a = some o) (h : OwnR K G H r f) : OwnR K G' H' r f := by
  cases r with
  | val k d v => exact Own.cong l hk h
  | blk as =>
    obtain ⟨e, h⟩ := h
    exact ⟨e, fun p hp => hk p.1 (by rw [e]; exact List.mem_map.mpr ⟨p, hp, rfl⟩) _ (h p hp)⟩
theorem OwnRs.cong (l : Le G G') : ∀ {R : List Root} {f : List Addr}, (∀ a ∈ f, ∀ o, H a = some o → H' a = some o) → OwnRs K G H R f → OwnRs K G' H' R f
  | _, _, _, .nil => .nil
  | _, _, hk, .cons h t => .cons (h.cong l fun a ha => hk a (List.mem_append_left _ ha)) (OwnRs.cong l (fun a ha => hk a (List.mem_append_right _ ha)) t)
theorem OwnRs.there : ∀ {R : List Root} {f : List Addr}, OwnRs K G H R f → ∀ a ∈ f, ∃ o, H a = some o
  | _, _, .nil, _, ha => by cases ha
  | _, _, .cons (r := r) h t, a, ha => by
    rcases List.mem_append.mp ha with q | q
    · cases r with
      | val k d v => exact Own.there h a q
      | blk as =>
        obtain ⟨e, h⟩ := h
        rw [e] at q
        obtain ⟨p, hp, rfl⟩ := List.mem_map.mp q
        exact ⟨_, h p hp⟩
    · exact t.there a q
theorem OwnRs.append : ∀ {R S : List Root} {f g : List Addr}, OwnRs K G H R f → OwnRs K G H S g → OwnRs K G H (R ++ S) (f ++ g)
  | _, _, _, _, .nil, h => h
  | _, _, _, _, .cons h t, h' => by
    rw [List.cons_append, List.append_assoc]
    exact .cons h (OwnRs.append t h')
theorem OwnRs.split : ∀ {R S : List Root} {f : List Addr}, OwnRs K G H (R ++ S) f → ∃ a b, f = a ++ b ∧ OwnRs K G H R a ∧ OwnRs K G H S b
  | [], _, f, h => ⟨[], f, rfl, .nil, h⟩
  | r :: R, S, _, .cons h t => by
    obtain ⟨a, b, e, h1, h2⟩ := OwnRs.split (R := R) t
    exact ⟨_ ++ a, b, by rw [e, List.append_assoc], .cons h h1, h2⟩
theorem OwnRs.perm {R R' : List Root} (p : R.Perm R') : ∀ {f : List Addr}, OwnRs K G H R f → ∃ g, f.Perm g ∧ OwnRs K G H R' g := by
  induction p with
  | nil => intro f h; exact ⟨f, List.Perm.refl _, h⟩
  | cons x p ih =>
    intro f h
    cases h with
    | cons h t =>
      obtain ⟨g, p1, h1⟩ := ih t
      exact ⟨_, List.Perm.append_left _ p1, .cons h h1⟩
  | swap x y l =>
    intro f h
    cases h with
    | cons h t =>
      cases t with
      | cons h2 t =>
        refine ⟨_, ?_, .cons h2 (.cons h t)⟩
        rw [← List.append_assoc, ← List.append_assoc]
        exact List.Perm.append_right _ List.perm_append_comm
  | trans p1 p2 ih1 ih2 =>
    intro f h
    obtain ⟨g, q1, h1⟩ := ih1 h
    obtain ⟨g2, q2, h2⟩ := ih2 h1
    exact ⟨g2, q1.trans q2, h2⟩
theorem RelR.le (h : RelR K H G R) : Le G H := let ⟨_, _, _, _, l⟩ := h; l
theorem RelR.perm (h : RelR K H G R) (p : R.Perm R') : RelR K H G R' := by
  obtain ⟨f, h1, h2, h3, h4⟩ := h
  obtain ⟨g, q, h5⟩ := h1.perm p
  exact ⟨g, h5, q.nodup_iff.mp h2, fun a ha => h3 a (q.mem_iff.mpr ha), h4⟩
theorem RelR.right (h : RelR K H G (R ++ S)) : RelR K H G S := by
  obtain ⟨f, h1, h2, h3, h4⟩ := h
  obtain ⟨a, b, rfl, _, h5⟩ := h1.split
  exact ⟨b, h5, (List.nodup_append.mp h2).2.1, fun x hx => h3 x (List.mem_append_right _ hx), h4⟩
theorem RelR.left (h : RelR K H G (R ++ S)) : RelR K H G R := RelR.right (h.perm List.perm_append_comm)
theorem RelR.tail {r : Root} (h : RelR K H G (r :: R)) : RelR K H G R := RelR.right (R := [r]) h
theorem RelR.grow (h : RelR K H G R) (g : Grow H H') : RelR K H' G R := by
  obtain ⟨f, h1, h2, h3, h4⟩ := h
  exact ⟨f, h1.cong (Le.refl _) fun a _ o e => g a o e, h2, h3, h4.trans g.le⟩
theorem RelR.rep {d : D} {v : V} (h : RelR K H G (.val 0 d v :: R)) : Rep K G d v := by
  obtain ⟨f, h1, _⟩ := h
  cases h1 with
  | cons h t => exact h.2
theorem RelR.add {d : D} {v : V} (h : RelR K H G R) (r : Rep K G d v) : RelR K H G (.val 0 d v :: R) := by
  obtain ⟨f, h1, h2, h3, h4⟩ := h
  exact ⟨[] ++ f, .cons ⟨rfl, r⟩ h1, h2, h3, h4⟩
/-- freezing a root -/
theorem RelR.freeze {k j : Nat} {d : D} {v : V} (h : RelR K H G (.val k d v :: R)) (hj : j ≤ k) : ∃ G', Le G G' ∧ RelR K H G' (.val j d v :: R) := by
  obtain ⟨f, h1, h2, h3, h4⟩ := h
  cases h1 with
  | cons h t =>
    rename_i f0 fs
    obtain ⟨f1, f2, p, q⟩ := Own.lower hj h
    have p' : (f0 ++ fs).Perm (f2 ++ (f1 ++ fs)) := by
      rw [← List.append_assoc]
      exact List.Perm.append_right fs (p.trans List.perm_append_comm)
    have nd := p'.nodup_iff.mp h2
    obtain ⟨n1, n2, n3⟩ := List.nodup_append.mp nd
    have hG : ∀ a, a ∈ f2 → G a = none := fun a ha => h3 a (p'.mem_iff.mpr (List.mem_append_left _ ha))
    let G' : Hp := fun a => if a ∈ f2 then H a else G a
    have l1 : Le G G' := fun b o e => .inl (by
      show (if b ∈ f2 then H b else G b) = some o
      rw [if_neg fun z => by rw [hG b z] at e; cases e]; exact e)
    have l2 : Le G' H := fun b o e => by
      have e' : (if b ∈ f2 then H b else G b) = some o := e
      by_cases hb : b ∈ f2
      · rw [if_pos hb] at e'; exact .inl e'
      · rw [if_neg hb] at e'; exact h4 b o e'
    refine ⟨G', l1, f1 ++ fs, .cons (q G' l1 fun a ha o e => ?_) (t.cong l1 fun _ _ _ e => e), n2, fun a ha => ?_, l2⟩
    · show (if a ∈ f2 then H a else G a) = some o
      rw [if_pos ha]; exact e
    · show (if a ∈ f2 then H a else G a) = none
      rw [if_neg fun z => n3 a z a ha rfl]
      exact h3 a (p'.mem_iff.mpr (List.mem_append_right _ ha))
/-- a new object -/
theorem RelR.new {p : Addr} {o : HO} (h : RelR K H G R) (hp : H p = none) : RelR K (upd H p o) G (.blk [(p, o)] :: R) := by
  obtain ⟨f, h1, h2, h3, h4⟩ := h
  have hn : p ∉ f := fun z => by obtain ⟨u, e⟩ := h1.there p z; rw [hp] at e; cases e
  refine ⟨[p] ++ f, .cons ⟨rfl, fun q hq => ?_⟩ (h1.cong (Le.refl _) fun a ha u e => by rw [upd_ne (ne_of_none e hp)]; exact e), List.nodup_cons.mpr ⟨hn, h2⟩, fun a ha => ?_, h4.trans (Grow.new hp).le⟩
  · obtain rfl : q = (p, o) := by simpa using hq
    exact upd_same
  · rcases List.mem_cons.mp ha with e | e
    · rw [e]; exact h4.none hp
    · exact h3 a e
/-- a new tuple (frozen from the start) -/
theorem RelR.newT {p : Addr} {vs : List V} (h : RelR K H G R) (hp : H p = none) : ∃ G', Le G G' ∧ RelR K (upd H p (.tup vs)) G' R ∧ G' p = some (.tup vs) := by
  obtain ⟨f, h1, h2, h3, h4⟩ := h
  have hn : p ∉ f := fun z => by obtain ⟨u, e⟩ := h1.there p z; rw [hp] at e; cases e
  have l : Le G (upd G p (.tup vs)) := (Grow.new (h4.none hp)).le
  refine ⟨upd G p (.tup vs), l, ⟨f, h1.cong l fun a ha u e => by rw [upd_ne (ne_of_none e hp)]; exact e, h2, fun a ha => ?_, fun b u e => ?_⟩, upd_same⟩
  · rw [upd_ne (show a ≠ p from fun e => hn (e ▸ ha))]; exact h3 a ha
  · by_cases hb : b = p
    · subst hb; rw [upd_same] at e; left; rw [upd_same]; exact e
    · rw [upd_ne hb] at e
      rw [upd_ne hb]
      exact h4 b u e
/-- an owned object is written -/
theorem RelR.write {a : Addr} {o o' : HO} (h : RelR K H G (.blk [(a, o)] :: R)) : RelR K (upd H a o') G (.blk [(a, o')] :: R) := by
  obtain ⟨f, h1, h2, h3, h4⟩ := h
  cases h1 with
  | cons h t =>
    rename_i f0 fs
    obtain ⟨e, h⟩ := h
    have e' : f0 = [a] := e
    subst e'
    have nd := List.nodup_cons.mp h2
    have hGa : G a = none := h3 a List.mem_cons_self
    refine ⟨[a] ++ fs, .cons ⟨rfl, fun q hq => ?_⟩ (t.cong (Le.refl _) fun b hb u e => ?_), h2, h3, fun b u e => ?_⟩
    · obtain rfl : q = (a, o') := by simpa using hq
      exact upd_same
    · rw [upd_ne (show b ≠ a from fun z => nd.1 (z ▸ hb))]; exact e
    · rw [upd_ne (show b ≠ a from fun z => by rw [z, hGa] at e; cases e)]
      exact h4 b u e
theorem RelR.blk {a : Addr} {o : HO} (h : RelR K H G (.blk [(a, o)] :: R)) : H a = some o := by
  obtain ⟨f, h1, _⟩ := h
  cases h1 with
  | cons h t => exact h.2 (a, o) (by simp)
theorem ownRs_vals {k : Nat} : ∀ {ds : List D} {vs : List V} {fs : List Addr}, OwnL (Own K G H k) ds vs fs → OwnRs K G H (vals k ds vs) fs
  | _, _, _, .nil => .nil
  | _, _, _, .cons h t => .cons h (ownRs_vals t)
theorem ownL_vals {k : Nat} : ∀ {ds : List D} {vs : List V} {fs : List Addr}, ds.length = vs.length → OwnRs K G H (vals k ds vs) fs → OwnL (Own K G H k) ds vs fs
  | [], [], _, _, .nil => .nil
  | [], _ :: _, _, e, _ => by simp at e
  | _ :: _, [], _, e, _ => by simp at e
  | d :: ds, v :: vs, _, e, .cons h t => .cons h (ownL_vals (by simpa using e) t)
/-- opening an owned list -/
theorem RelR.openL {k : Nat} {ds : List D} {v : V} (h : RelR K H G (.val (k + 1) (.list ds) v :: R)) : ∃ a vs, v = .ref a ∧ ds.length = vs.length ∧ H a = some (.lst vs) ∧ RelR K H G (.blk [(a, .lst vs)] :: (vals k ds vs ++ R)) := by
  obtain ⟨f, h1, h2, h3, h4⟩ := h
  cases h1 with
  | cons h t =>
    obtain ⟨a, vs, fs, e, e2, ha, ho⟩ := h
    subst e2
    refine ⟨a, vs, e, ho.length, ha, _, .cons (f := [a]) ⟨rfl, fun q hq => ?_⟩ ((ownRs_vals ho).append t), ?_, ?_, h4⟩
    · obtain rfl : q = (a, .lst vs) := by simpa using hq
      exact ha
    · simpa using h2
    · intro b hb; exact h3 b (by simpa using hb)
theorem RelR.closeL {k : Nat} {ds : List D} {a : Addr} {vs : List V} (h : RelR K H G (.blk [(a, .lst vs)] :: (vals k ds vs ++ R))) (hl : ds.length = vs.length) : RelR K H G (.val (k + 1) (.list ds) (.ref a) :: R) := by
  have ha := h.blk
  obtain ⟨f, h1, h2, h3, h4⟩ := h
  cases h1 with
  | cons h t =>
    rename_i f0 fs
    obtain ⟨e, h⟩ := h
    have e' : f0 = [a] := e
    subst e'
    obtain ⟨b, c, e2, t1, t2⟩ := t.split
    subst e2
    refine ⟨(a :: b) ++ c, .cons ⟨a, vs, b, rfl, rfl, ha, ownL_vals hl t1⟩ t2, ?_, ?_, h4⟩
    · simpa using h2
    · intro x hx; exact h3 x (by simpa using hx)
theorem RelR.closeT {k : Nat} {ds : List D} {a : Addr} {vs : List V} (h : RelR K H G (vals k ds vs ++ R)) (hl : ds.length = vs.length) (ha : G a = some (.tup vs)) : RelR K H G (.val (k + 1) (.tuple ds) (.ref a) :: R) := by
  obtain ⟨f, h1, h2, h3, h4⟩ := h
  obtain ⟨b, c, e2, t1, t2⟩ := h1.split
  subst e2
  exact ⟨b ++ c, .cons ⟨a, vs, rfl, ha, ownL_vals hl t1⟩ t2, h2, h3, h4⟩
/-- opening an owned dict -/
theorem RelR.openD {k : Nat} {kvs : List (D × D)} {v : V} (h : RelR K H G (.val (k + 1) (.dict kvs) v :: R)) : ∃ a vs o, v = .ref a ∧ kvs.length = vs.length ∧ DObj (fun u => u = o) (kvs.map (·.1)) vs ∧ H a = some o ∧ RelR K H G (.blk [(a, o)] :: (vals k (kvs.map (·.2)) vs ++ R)) := by
  obtain ⟨f, h1, h2, h3, h4⟩ := h
  cases h1 with
  | cons h t =>
    obtain ⟨a, vs, fs, e, e2, ha, ho⟩ := h
    subst e2
    have hl : kvs.length = vs.length := by simpa using ho.length
    have fin : ∀ o, H a = some o → RelR K H G (.blk [(a, o)] :: (vals k (kvs.map (·.2)) vs ++ R)) := fun o ha => ⟨_, .cons (f := [a]) ⟨rfl, fun q hq => by
        obtain rfl : q = (a, o) := by simpa using hq
        exact ha⟩ ((ownRs_vals ho).append t), by simpa using h2, fun b hb => h3 b (by simpa using hb), h4⟩
    rcases ha with ⟨q, e1, e3, ha⟩ | ⟨q, us, e1, e2, e3, ha⟩
    · exact ⟨a, vs, _, e, hl, .inl ⟨q, e1, e3, rfl⟩, ha, fin _ ha⟩
    · exact ⟨a, vs, _, e, hl, .inr ⟨q, us, e1, e2, e3, rfl⟩, ha, fin _ ha⟩
theorem RelR.closeD {k : Nat} {kvs : List (D × D)} {a : Addr} {vs : List V} {o : HO} (h : RelR K H G (.blk [(a, o)] :: (vals k (kvs.map (·.2)) vs ++ R))) (hl : kvs.length = vs.length) (hd : DObj (fun u => u = o) (kvs.map (·.1)) vs) :
    RelR K H G (.val (k + 1) (.dict kvs) (.ref a) :: R) := by
  have ha := h.blk
  obtain ⟨f, h1, h2, h3, h4⟩ := h
  cases h1 with
  | cons h t =>
    rename_i f0 fs
    obtain ⟨e, h⟩ := h
    have e' : f0 = [a] := e
    subst e'
    obtain ⟨b, c, e2, t1, t2⟩ := t.split
    subst e2
    refine ⟨(a :: b) ++ c, .cons ⟨a, vs, b, rfl, rfl, hd.mono fun u e => e ▸ ha, ownL_vals (by simpa using hl) t1⟩ t2, ?_, ?_, h4⟩
    · simpa using h2
    · intro x hx; exact h3 x (by simpa using hx)
end
end VL

/-! VL2: the names' cells, the state, judgements of expressions -/
namespace VL
open PySem L2

theorem permc {α : Type} {l l' : List α} (h : ∀ [BEq α] [LawfulBEq α] (a : α), l.count a = l'.count a) : l.Perm l' := by
  classical
  exact List.perm_iff_count.mpr fun a => h a
/-- what a name holds: nothing known, or a datum owned to the depth k (p: it is an inout argument) -/
inductive Cell where
  | un
  | vr (p : Bool) (k : Nat) (d : D)
abbrev Env := List Cell
/-- pins: the values of the inout arguments by slot -/
abbrev Pins := List (Option V)
inductive Cells : Pins → St → Env → List Root → Prop
  | nil : Cells [] [] [] []
  | un {P σ e R s} : Cells P σ e R → Cells (none :: P) (s :: σ) (.un :: e) R
  | vr {P σ e R v k d} : Cells P σ e R → Cells (none :: P) (some v :: σ) (.vr false k d :: e) (.val k d v :: R)
  | io {P σ e R v k d} : Cells P σ e R → Cells (some v :: P) (some v :: σ) (.vr true k d :: e) (.val k d v :: R)
/-- the slot i may be stored -/
def free (e : Env) (i : Nat) : Prop := match e[i]? with
  | some .un => True
  | some (.vr false _ _) => True
  | _ => False
def drop (e : Env) : List Nat → Env
  | [] => e
  | i :: is => (drop e is).set i .un

section
variable {P : Pins} {σ : St} {e : Env} {R : List Root}
theorem Cells.len (h : Cells P σ e R) : σ.length = e.length := by
  induction h with
  | nil => rfl
  | un _ ih => simp [ih]
  | vr _ ih => simp [ih]
  | io _ ih => simp [ih]
/-- a name's datum; it may be known otherwise, or not at all -/
theorem Cells.at (h : Cells P σ e R) : ∀ {i : Nat} {p : Bool} {k : Nat} {d : D}, e[i]? = some (.vr p k d) → ∃ v R1 R2, σ[i]? = some (some v) ∧ R = R1 ++ .val k d v :: R2 ∧ (p = true → P[i]? = some (some v)) ∧
    (∀ k' d', Cells P σ (e.set i (.vr p k' d')) (R1 ++ .val k' d' v :: R2)) ∧ (p = false → Cells P σ (e.set i .un) (R1 ++ R2)) := by
  induction h with
  | nil => intro i p k d q; simp at q
  | @un P σ e R s h ih =>
    intro i p k d q
    cases i with
    | zero => simp at q
    | succ i =>
      obtain ⟨v, R1, R2, h1, h2, h3, h4, h5⟩ := ih (i := i) (by simpa using q)
      exact ⟨v, R1, R2, by simpa using h1, h2, fun z => by simpa using h3 z, fun k' d' => .un (h4 k' d'), fun z => .un (h5 z)⟩
  | @vr P σ e R v k d h ih =>
    intro i p k0 d0 q
    cases i with
    | zero =>
      simp at q
      obtain ⟨rfl, rfl, rfl⟩ := q
      exact ⟨v, [], R, rfl, rfl, fun z => by simp at z, fun k' d' => .vr h, fun _ => .un h⟩
    | succ i =>
      obtain ⟨v', R1, R2, h1, h2, h3, h4, h5⟩ := ih (i := i) (by simpa using q)
      exact ⟨v', .val k d v :: R1, R2, by simpa using h1, by rw [h2]; rfl, fun z => by simpa using h3 z, fun k' d' => .vr (h4 k' d'), fun z => .vr (h5 z)⟩
  | @io P σ e R v k d h ih =>
    intro i p k0 d0 q
    cases i with
    | zero =>
      simp at q
      obtain ⟨rfl, rfl, rfl⟩ := q
      exact ⟨v, [], R, rfl, rfl, fun _ => rfl, fun k' d' => .io h, fun z => by simp at z⟩
    | succ i =>
      obtain ⟨v', R1, R2, h1, h2, h3, h4, h5⟩ := ih (i := i) (by simpa using q)
      exact ⟨v', .val k d v :: R1, R2, by simpa using h1, by rw [h2]; rfl, fun z => by simpa using h3 z, fun k' d' => .io (h4 k' d'), fun z => .io (h5 z)⟩
/-- a name is stored -/
theorem Cells.put (h : Cells P σ e R) : ∀ {i : Nat}, free e i → ∃ R1 o R2, R = R1 ++ (o ++ R2) ∧ (∀ v k d, Cells P (σ.set i (some v)) (e.set i (.vr false k d)) (R1 ++ .val k d v :: R2)) ∧ (∀ s, Cells P (σ.set i s) (e.set i .un) (R1 ++ R2)) := by
  induction h with
  | nil => intro i q; simp [free] at q
  | @un P σ e R s h ih =>
    intro i q
    cases i with
    | zero => exact ⟨[], [], R, rfl, fun v k d => .vr h, fun s => .un h⟩
    | succ i =>
      obtain ⟨R1, o, R2, h1, h2, h3⟩ := ih (i := i) (by simpa [free] using q)
      exact ⟨R1, o, R2, h1, fun v k d => .un (h2 v k d), fun s => .un (h3 s)⟩
  | @vr P σ e R v k d h ih =>
    intro i q
    cases i with
    | zero => exact ⟨[], [.val k d v], R, rfl, fun v k d => .vr h, fun s => .un h⟩
    | succ i =>
      obtain ⟨R1, o, R2, h1, h2, h3⟩ := ih (i := i) (by simpa [free] using q)
      exact ⟨.val k d v :: R1, o, R2, by rw [h1]; rfl, fun v k d => .vr (h2 v k d), fun s => .vr (h3 s)⟩
  | @io P σ e R v k d h ih =>
    intro i q
    cases i with
    | zero => simp [free] at q
    | succ i =>
      obtain ⟨R1, o, R2, h1, h2, h3⟩ := ih (i := i) (by simpa [free] using q)
      exact ⟨.val k d v :: R1, o, R2, by rw [h1]; rfl, fun v k d => .io (h2 v k d), fun s => .io (h3 s)⟩
end

/-- the state: slots σ, the heap H with its frozen part G, cells e, further roots T -/
def Rel (K : PySem.W.Frag) (P : Pins) (σ : St) (H G : Hp) (e : Env) (T : List Root) : Prop := ∃ R, Cells P σ e R ∧ RelR K H G (R ++ T)

section
variable {K : PySem.W.Frag} {P : Pins} {σ : St} {H H' G G' : Hp} {e : Env} {T T' : List Root}
theorem Rel.le (h : Rel K P σ H G e T) : Le G H := let ⟨_, _, r⟩ := h; r.le
theorem Rel.perm (h : Rel K P σ H G e T) (p : T.Perm T') : Rel K P σ H G e T' := let ⟨R, c, r⟩ := h; ⟨R, c, r.perm (List.Perm.append_left R p)⟩
/-- a change of the further roots alone -/
theorem Rel.temps (h : Rel K P σ H G e T) (f : ∀ S, RelR K H G (T ++ S) → RelR K H' G' (T' ++ S)) : Rel K P σ H' G' e T' :=
  let ⟨R, c, r⟩ := h; ⟨R, c, (f R (r.perm List.perm_append_comm)).perm List.perm_append_comm⟩
theorem Rel.temps' (h : Rel K P σ H G e T) (f : ∀ S, RelR K H G (T ++ S) → ∃ G', Le G G' ∧ RelR K H' G' (T' ++ S)) : ∃ G', Le G G' ∧ Rel K P σ H' G' e T' := by
  obtain ⟨R, c, r⟩ := h
  obtain ⟨G', l, r'⟩ := f R (r.perm List.perm_append_comm)
  exact ⟨G', l, R, c, r'.perm List.perm_append_comm⟩
theorem Rel.tail {r : Root} (h : Rel K P σ H G e (r :: T)) : Rel K P σ H G e T := h.temps fun S q => q.tail
theorem Rel.right {S : List Root} (h : Rel K P σ H G e (S ++ T)) : Rel K P σ H G e T := h.temps fun U q => RelR.right (R := S) (by simpa using q)
theorem Rel.relR (h : Rel K P σ H G e T) : RelR K H G T := let ⟨_, _, r⟩ := h; r.right
theorem Rel.rep {d : D} {v : V} (h : Rel K P σ H G e (.val 0 d v :: T)) : Rep K G d v := h.relR.rep
theorem Rel.add {d : D} {v : V} (h : Rel K P σ H G e T) (r : Rep K G d v) : Rel K P σ H G e (.val 0 d v :: T) := h.temps fun _ q => q.add r
theorem Rel.freeze {k j : Nat} {d : D} {v : V} (h : Rel K P σ H G e (.val k d v :: T)) (hj : j ≤ k) : ∃ G', Le G G' ∧ Rel K P σ H G' e (.val j d v :: T) :=
  h.temps' fun S q => q.freeze hj
/-- a name's datum, out as a root beside it -/
theorem Rel.at {i : Nat} {p : Bool} {k : Nat} {d : D} (h : Rel K P σ H G e T) (hi : e[i]? = some (.vr p k d)) : ∃ v, σ[i]? = some (some v) ∧ (p = true → P[i]? = some (some v)) ∧ ∃ S,
    RelR K H G (.val k d v :: S) ∧ (∀ k' d' H' G' T', RelR K H' G' (T' ++ .val k' d' v :: S) → Rel K P σ H' G' (e.set i (.vr p k' d')) (T' ++ T)) ∧ (p = false → ∀ H' G' T', RelR K H' G' (T' ++ S) → Rel K P σ H' G' (e.set i .un) (T' ++ T)) := by
  obtain ⟨R, c, r⟩ := h
  obtain ⟨v, R1, R2, h1, rfl, h3, h4, h5⟩ := c.at hi
  have pp : ∀ (T' X : List Root), (T' ++ (X ++ (R1 ++ R2 ++ T))).Perm ((R1 ++ (X ++ R2)) ++ (T' ++ T)) := fun T' X => permc fun a => by
    simp only [List.count_append]; omega
  refine ⟨v, h1, h3, R1 ++ R2 ++ T, r.perm ?_, fun k' d' H' G' T' q => ⟨_, h4 k' d', q.perm ?_⟩, fun z H' G' T' q => ⟨_, h5 z, q.perm ?_⟩⟩
  · have := (pp [] [.val k d v]).symm
    simpa using this
  · simpa using pp T' [.val k' d' v]
  · simpa using pp T' []
/-- a root goes into a name -/
theorem Rel.store {i : Nat} {k : Nat} {d : D} {v : V} (h : Rel K P σ H G e (.val k d v :: T)) (hf : free e i) : Rel K P (σ.set i (some v)) H G (e.set i (.vr false k d)) T := by
  obtain ⟨R, c, r⟩ := h
  obtain ⟨R1, o, R2, rfl, h2, _⟩ := c.put hf
  refine ⟨_, h2 v k d, ?_⟩
  have p : ((R1 ++ (o ++ R2)) ++ .val k d v :: T).Perm (o ++ ((R1 ++ .val k d v :: R2) ++ T)) := permc fun a => by
    simp only [List.count_append, List.count_cons]; omega
  exact (r.perm p).right
theorem Rel.forget {i : Nat} (h : Rel K P σ H G e T) (hf : free e i) (s : Option V) : Rel K P (σ.set i s) H G (e.set i .un) T := by
  obtain ⟨R, c, r⟩ := h
  obtain ⟨R1, o, R2, rfl, _, h3⟩ := c.put hf
  exact ⟨_, h3 s, RelR.right (R := o) (r.perm (permc fun a => by simp only [List.count_append]; omega))⟩
theorem Rel.len (h : Rel K P σ H G e T) : σ.length = e.length := let ⟨_, c, _⟩ := h; c.len
end

/-! ### what is new -/
/-- behind an operation: a root that is new but for what is frozen -/
structure New (K : PySem.W.Frag) (G H : Hp) (k : Nat) (d : D) (w : V) (G' H' : Hp) (f : List Addr) : Prop where
  le : Le G G'
  le' : Le G' H'
  grow : Grow H H'
  old : ∀ a o, H a = some o → G' a = G a
  nd : f.Nodup
  fr : ∀ a ∈ f, H a = none ∧ G' a = none
  own : Own K G' H' k d w f
section
variable {K : PySem.W.Frag} {G H G' H' : Hp} {k : Nat} {d : D} {w : V} {f : List Addr} {R : List Root}
theorem New.relR (n : New K G H k d w G' H' f) (h : RelR K H G R) : RelR K H' G' (.val k d w :: R) := by
  obtain ⟨g, h1, h2, h3, h4⟩ := h
  have ex : ∀ a ∈ g, ∃ o, H a = some o := h1.there
  refine ⟨f ++ g, .cons n.own (h1.cong n.le fun a _ o e => n.grow a o e), List.nodup_append.mpr ⟨n.nd, h2, fun a ha b hb e => ?_⟩, fun a ha => ?_, n.le'⟩
  · subst e
    obtain ⟨o, e⟩ := ex a hb
    rw [(n.fr a ha).1] at e; cases e
  · rcases List.mem_append.mp ha with q | q
    · exact (n.fr a q).2
    · obtain ⟨o, e⟩ := ex a q
      rw [n.old a o e]; exact h3 a q
/-- a value that stood already -/
theorem New.old' (l : Le G H) (r : Rep K G d w) (hk : k = 0 ∨ flat d = true) : New K G H k d w G H [] :=
  ⟨Le.refl _, l, Grow.refl _, fun _ _ _ => rfl, List.nodup_nil, fun a ha => (by cases ha), (by
    rcases hk with rfl | hk
    · exact ⟨rfl, r⟩
    · exact (own_flat hk).mpr ⟨rfl, r⟩)⟩
/-- a new list of frozen things -/
theorem New.list {p : Addr} {vs : List V} {ds : List D} (l : Le G H) (hp : H p = none) (r : RepL K G ds vs) : New K G H 1 (.list ds) (.ref p) G (upd H p (.lst vs)) [p] :=
  ⟨Le.refl _, l.trans (Grow.new hp).le, Grow.new hp, fun _ _ _ => rfl, by simp, fun a ha => by
    obtain rfl : a = p := by simpa using ha
    exact ⟨hp, l.none hp⟩, p, vs, [], rfl, rfl, upd_same, OwnL.zero.mpr ⟨rfl, r⟩⟩
theorem New.tup {p : Addr} {vs : List V} {ds : List D} (l : Le G H) (hp : H p = none) (r : RepL K G ds vs) : New K G H 1 (.tuple ds) (.ref p) (upd G p (.tup vs)) (upd H p (.tup vs)) [] := by
  have lG : Le G (upd G p (.tup vs)) := (Grow.new (l.none hp)).le
  refine ⟨lG, fun b u e => ?_, Grow.new hp, fun a o e => upd_ne (ne_of_none e hp), List.nodup_nil, fun a ha => (by cases ha), p, vs, rfl, upd_same, OwnL.zero.mpr ⟨rfl, ?_⟩⟩
  · by_cases hb : b = p
    · subst hb; rw [upd_same] at e; left; rw [upd_same]; exact e
    · rw [upd_ne hb] at e; rw [upd_ne hb]; exact l b u e
  · have : ∀ {ds : List D} {vs' : List V}, RepL K G ds vs' → RepL K (upd G p (.tup vs)) ds vs' := fun h => RepL.mono lG h
    exact this r
theorem New.dict {p : Addr} {vs : List V} {kvs : List (D × D)} {o : HO} (l : Le G H) (hp : H p = none) (hd : DObj (fun u => u = o) (kvs.map (·.1)) vs) (r : RepL K G (kvs.map (·.2)) vs) : New K G H 1 (.dict kvs) (.ref p) G (upd H p o) [p] :=
  ⟨Le.refl _, l.trans (Grow.new hp).le, Grow.new hp, fun _ _ _ => rfl, by simp, fun a ha => by
    obtain rfl : a = p := by simpa using ha
    exact ⟨hp, l.none hp⟩, p, vs, [], rfl, rfl, hd.mono fun u e => by rw [e]; exact upd_same, OwnL.zero.mpr ⟨rfl, r⟩⟩
end

/-- at hand: the top object in H, what it holds frozen -/
def Rep1 (K : PySem.W.Frag) (H G : Hp) : D → V → Prop
  | .list ds, v => ∃ a vs, v = .ref a ∧ SqL K H a vs ∧ RepL K G ds vs
  | .dict kvs, v => ∃ a vs, v = .ref a ∧ DObj (Rd H a) (kvs.map (·.1)) vs ∧ RepKV K G kvs vs
  | d, v => Rep K G d v
inductive Rep1L (K : PySem.W.Frag) (H G : Hp) : List D → List V → Prop
  | nil : Rep1L K H G [] []
  | cons {d v ds vs} : Rep1 K H G d v → Rep1L K H G ds vs → Rep1L K H G (d :: ds) (v :: vs)
section
variable {K : PySem.W.Frag} {G H G' H' : Hp} {k : Nat} {d : D} {v : V} {R : List Root}
theorem Rep.one (l : Le G H) (h : Rep K G d v) : Rep1 K H G d v := by
  cases d with
  | list ds => rw [Rep] at h; obtain ⟨a, vs, e, s, r⟩ := h; exact ⟨a, vs, e, l.sqL s, r⟩
  | dict kvs => rw [Rep] at h; obtain ⟨a, vs, e, s, r⟩ := h; exact ⟨a, vs, e, s.mono fun o => l.rdD, r⟩
  | _ => exact h
theorem Rep1.all (l : Le G H) (h : Rep1 K H G d v) : Rep K H d v := by
  cases d with
  | list ds => rw [Rep]; obtain ⟨a, vs, e, s, r⟩ := h; exact ⟨a, vs, e, s, r.mono l⟩
  | dict kvs => rw [Rep]; obtain ⟨a, vs, e, s, r⟩ := h; exact ⟨a, vs, e, s, r.mono l⟩
  | _ => exact Rep.mono l (show Rep K G _ v from h)
theorem Rep1.flat (hf : VL.flat d = true) (h : Rep1 K H G d v) : Rep K G d v := by
  cases d <;> first | exact h | (simp [VL.flat] at hf)
theorem RelR.one (h : RelR K H G (.val k d v :: R)) (hk : k ≤ 1 ∨ VL.flat d = true) : Rep1 K H G d v := by
  have l := h.le
  obtain ⟨f, h1, _⟩ := h
  cases h1 with
  | cons h t =>
    have h : Own K G H k d v _ := h
    by_cases hf : VL.flat d = true
    · exact ((own_flat hf).mp h).2.one l
    · have hk1 : k ≤ 1 := hk.resolve_right hf
      match k, hk1, h with
      | 0, _, h => exact h.2.one l
      | 1, _, h =>
        cases d with
        | list ds =>
          obtain ⟨a, vs, fs, e, _, ha, ho⟩ := h
          exact ⟨a, vs, e, SqL.of ha, (OwnL.zero.mp ho).2⟩
        | tuple ds =>
          obtain ⟨a, vs, e, ha, ho⟩ := h
          exact (show Rep1 K H G (.tuple ds) v from (show Rep K G (.tuple ds) v by rw [Rep]; exact ⟨a, vs, e, ha, (OwnL.zero.mp ho).2⟩))
        | dict kvs =>
          obtain ⟨a, vs, fs, e, _, ha, ho⟩ := h
          exact ⟨a, vs, e, ha.mono fun o q => .inl q, repKV_iff.mpr (OwnL.zero.mp ho).2⟩
        | _ => simp [VL.flat] at hf
end
end VL

/-! VL3: judgements of expressions, operands, tests -/
namespace VL
open PySem L2

abbrev QE := D → Env → Prop
abbrev XQ := Value → Env → Prop
abbrev VTE := Env → QE → XQ → Prop
abbrev VTT := Env → (Bool → Env → Prop) → XQ → Prop
abbrev VTA := Env → (List D → Env → Prop) → XQ → Prop
abbrev OPD := List D → (D → Prop) → Prop

def XOk (K : PySem.W.Frag) (W : WX) (P : Pins) (T : List Root) (σ : St) (G : Hp) (Xc : XQ) : Prop := ∀ c e' H' G', Xc c e' → Le G G' → Rel K P σ H' G' e' T → W c none σ H'
theorem XOk.mono {K : PySem.W.Frag} {W : WX} {P : Pins} {T : List Root} {σ : St} {G G' : Hp} {Xc : XQ} (h : XOk K W P T σ G Xc) (l : Le G G') : XOk K W P T σ G' Xc := fun c e' H2 G2 q l2 r => h c e' H2 G2 q (l.trans l2) r
theorem XOk.more {K : PySem.W.Frag} {W : WX} {P : Pins} {T S : List Root} {σ : St} {G : Hp} {Xc : XQ} (h : XOk K W P T σ G Xc) : XOk K W P (S ++ T) σ G Xc := fun c e' H2 G2 q l2 r => h c e' H2 G2 q l2 r.right

/-- the value is a datum owned to the depth k -/
def tV (K : PySem.W.Frag) (W : WX) (k : Nat) (t : VTE) : TE := fun σ H Q => ∃ (P : Pins) (G : Hp) (e : Env) (T : List Root) (Qc : QE) (Xc : XQ), Rel K P σ H G e T ∧ t e Qc Xc ∧
  (∀ d e' v H' G', Qc d e' → Le G G' → Rel K P σ H' G' e' (.val k d v :: T) → Q v H') ∧ XOk K W P T σ G Xc
def tT (K : PySem.W.Frag) (W : WX) (t : VTT) : TT := fun σ H Q => ∃ (P : Pins) (G : Hp) (e : Env) (T : List Root) (Qc : Bool → Env → Prop) (Xc : XQ), Rel K P σ H G e T ∧ t e Qc Xc ∧
  (∀ b e' H' G', Qc b e' → Le G G' → Rel K P σ H' G' e' T → Q b H') ∧ XOk K W P T σ G Xc
structure VE (X : Cx) (W : WX) (k : Nat) (ex : Expr) (t : VTE) : Prop where
  run : PE X ex (tV X.K W k t)
structure VT (X : Cx) (W : WX) (ex : Expr) (t : VTT) : Prop where
  run : PT X ex (tT X.K W t)
structure VW (X : Cx) (W : WX) (ex : Expr) (t : VTT) : Prop where
  run : PW X ex (tT X.K W t)

theorem PE.imp {X : Cx} {ex : Expr} {te te' : TE} (h : PE X ex te) (f : ∀ σ H Q, te' σ H Q → te σ H Q) : PE X ex te' := ⟨fun pins s σ H Q I q => h.run pins s σ H Q I (f σ H Q q)⟩
theorem PT.imp {X : Cx} {ex : Expr} {te te' : TT} (h : PT X ex te) (f : ∀ σ H Q, te' σ H Q → te σ H Q) : PT X ex te' := ⟨fun pins s σ H Q I q => h.run pins s σ H Q I (f σ H Q q)⟩
theorem PW.imp {X : Cx} {ex : Expr} {te te' : TT} (h : PW X ex te) (f : ∀ σ H Q, te' σ H Q → te σ H Q) : PW X ex te' := ⟨fun wh pins s σ H Q I q => h.run wh pins s σ H Q I (f σ H Q q)⟩
theorem PA.imp {X : Cx} {es : List Expr} {te te' : TA} (h : PA X es te) (f : ∀ σ H Q, te' σ H Q → te σ H Q) : PA X es te' := ⟨fun pos pins s σ H Q I q => h.run pos pins s σ H Q I (f σ H Q q)⟩
theorem PS.imp {X : Cx} {st : Stmt} {te te' : TS} (h : PS X st te) (f : ∀ D σ H, te' D σ H → te D σ H) : PS X st te' := ⟨fun pins s σ H D I q => h.run pins s σ H D I (f D σ H q)⟩
theorem PSs.imp {X : Cx} {st : List Stmt} {te te' : TS} (h : PSs X st te) (f : ∀ D σ H, te' D σ H → te D σ H) : PSs X st te' := ⟨fun pins s σ H D I q => h.run pins s σ H D I (f D σ H q)⟩

section
variable {K : PySem.W.Frag} {W : WX} {k : Nat} {t : VTE} {σ : St} {H : Hp}
theorem tV.mono {Q Q' : VK} (h : tV K W k t σ H Q) (f : ∀ v H', Q v H' → Q' v H') : tV K W k t σ H Q' := by
  obtain ⟨P, G, e, T, Qc, Xc, r, q, c, x⟩ := h
  exact ⟨P, G, e, T, Qc, Xc, r, q, fun d e' v H' G' h1 h2 h3 => f v H' (c d e' v H' G' h1 h2 h3), x⟩
end

/-! ### names, constants, freezing -/
def vK (d : D) : VTE := fun e Q _ => Q d e
def vVar (i : Nat) : VTE := fun e Q _ => match e[i]? with
  | some (.vr _ k d) => (k = 0 ∨ flat d = true) ∧ Q d e
  | _ => False
/-- the name's datum is frozen from here on -/
def vFrz (i : Nat) : VTE := fun e Q _ => match e[i]? with
  | some (.vr false _ d) => Q d (e.set i (.vr false 0 d))
  | _ => False
/-- the name gives its datum away -/
def vMov (k : Nat) (i : Nat) : VTE := fun e Q _ => match e[i]? with
  | some (.vr false k' d) => k' = k ∧ Q d (e.set i .un)
  | _ => False
section
variable {X : Cx} {W : WX} {k : Nat} {ex : Expr} {t : VTE}
theorem VE.of {te : TE} (h : PE X ex te) (f : ∀ P σ H G e T Qc Xc (Q : VK), Rel X.K P σ H G e T → t e Qc Xc → (∀ d e' v H' G', Qc d e' → Le G G' → Rel X.K P σ H' G' e' (.val k d v :: T) → Q v H') → XOk X.K W P T σ G Xc → te σ H Q) : VE X W k ex t :=
  ⟨PE.imp h fun σ H Q ⟨P, G, e, T, Qc, Xc, r, q, c, x⟩ => f P σ H G e T Qc Xc Q r q c x⟩
theorem ve_low {j : Nat} (hj : j ≤ k) (h : VE X W k ex t) : VE X W j ex t :=
  VE.of h.run fun P σ H G e T Qc Xc Q r q c x => ⟨P, G, e, T, Qc, Xc, r, q, fun d e' v H' G' h1 h2 h3 => by
    obtain ⟨G2, l2, r2⟩ := h3.freeze hj
    exact c d e' v H' G2 h1 (h2.trans l2) r2, x⟩
/-- flat data are owned to any depth -/
theorem rel_flat {K : PySem.W.Frag} {P : Pins} {σ : St} {H G : Hp} {e : Env} {T : List Root} {d : D} {v : V} (r : Rel K P σ H G e T) (h : Rep K G d v) (hk : k = 0 ∨ flat d = true) : Rel K P σ H G e (.val k d v :: T) :=
  r.temps fun S q => (New.old' (k := k) q.le h hk).relR q
theorem ve_int {i j pos} : VE X W k (.Constant (.int i) j pos) (vK (.int i)) := VE.of pe_int fun P σ H G e T Qc Xc Q r q c _ => c _ e _ H G q (Le.refl _) (rel_flat r (by rw [Rep]) (.inr rfl))
theorem ve_bl {b j pos} : VE X W k (.Constant (.bool b) j pos) (vK (.bool b)) := VE.of pe_bl fun P σ H G e T Qc Xc Q r q c _ => c _ e _ H G q (Le.refl _) (rel_flat r (by rw [Rep]) (.inr rfl))
theorem ve_non {j pos} : VE X W k (.Constant .none j pos) (vK .none) := VE.of pe_non fun P σ H G e T Qc Xc Q r q c _ => c _ e _ H G q (Le.refl _) (rel_flat r (by rw [Rep]) (.inr rfl))
theorem ve_str {x j pos} : VE X W k (.Constant (.str x) j pos) (vK (.str x)) := VE.of pe_str fun P σ H G e T Qc Xc Q r q c _ => c _ e _ H G q (Le.refl _) (rel_flat r (by rw [Rep]) (.inr rfl))
/-- a module's text -/
theorem ve_gstr {x z : Str} {tk : Tok} {pos : Pos} (hg : Gl X x) (hm : X.mg x = some (.str z tk)) (hd : (x == ("__debug__" : Str)) = false := by decide) : VE X W k (.Name x pos) (vK (.str z)) :=
  VE.of (pe_glob (v := .str z) hg hm ⟨tk, rfl⟩ hd) fun P σ H G e T Qc Xc Q r q c _ => c _ e _ H G q (Le.refl _) (rel_flat r (by rw [Rep]) (.inr rfl))
theorem ve_gint {x : Str} {z : Int} {tk : Tok} {pos : Pos} (hg : Gl X x) (hm : X.mg x = some (.int z tk)) (hd : (x == ("__debug__" : Str)) = false := by decide) : VE X W k (.Name x pos) (vK (.int z)) :=
  VE.of (pe_glob (v := .int z) hg hm ⟨tk, rfl⟩ hd) fun P σ H G e T Qc Xc Q r q c _ => c _ e _ H G q (Le.refl _) (rel_flat r (by rw [Rep]) (.inr rfl))
theorem Rel.at0 {K : PySem.W.Frag} {P : Pins} {σ : St} {H G : Hp} {e : Env} {T : List Root} {i : Nat} {p : Bool} {d : D} (r : Rel K P σ H G e T) (hi : e[i]? = some (.vr p k d)) (hk : k = 0 ∨ flat d = true) : ∃ v, σ[i]? = some (some v) ∧ Rep K G d v := by
  obtain ⟨v, h1, _, S, h2, _⟩ := r.at hi
  refine ⟨v, h1, ?_⟩
  obtain ⟨f, h3, _⟩ := h2
  cases h3 with
  | cons h t =>
    have h : Own K G H k d v _ := h
    rcases hk with rfl | hk
    · exact h.2
    · exact ((own_flat hk).mp h).2
theorem ve_var {i : Nat} {x : Str} {pos : Pos} (h : PE X (.Name x pos) (tVar i)) : VE X W 0 (.Name x pos) (vVar i) :=
  VE.of h fun P σ H G e T Qc Xc Q r q c _ => by
    unfold vVar at q
    split at q
    · rename_i p k d hi
      obtain ⟨hk, q⟩ := q
      obtain ⟨v, h1, h2⟩ := r.at0 hi hk
      exact ⟨v, h1, c _ e _ H G q (Le.refl _) (r.add h2)⟩
    · exact q.elim
theorem ve_frz {i : Nat} {x : Str} {pos : Pos} (h : PE X (.Name x pos) (tVar i)) : VE X W 0 (.Name x pos) (vFrz i) :=
  VE.of h fun P σ H G e T Qc Xc Q r q c _ => by
    unfold vFrz at q
    split at q
    · rename_i k d hi
      obtain ⟨v, h1, _, S, h2, h3, _⟩ := r.at hi
      obtain ⟨G2, l2, r2⟩ := h2.freeze (Nat.zero_le _)
      exact ⟨v, h1, c _ _ _ H G2 q l2 (h3 0 d H G2 [.val 0 d v] (r2.tail.add r2.rep |>.tail |> fun z => (r2.add r2.rep)))⟩
    · exact q.elim
theorem ve_mov {i : Nat} {x : Str} {pos : Pos} (h : PE X (.Name x pos) (tVar i)) : VE X W k (.Name x pos) (vMov k i) :=
  VE.of h fun P σ H G e T Qc Xc Q r q c _ => by
    unfold vMov at q
    split at q
    · rename_i k' d hi
      obtain ⟨rfl, q⟩ := q
      obtain ⟨v, h1, _, S, h2, _, h3⟩ := r.at hi
      exact ⟨v, h1, c _ _ _ H G q (Le.refl _) (h3 rfl H G [.val k' d v] h2)⟩
    · exact q.elim
end

/-! ### operands -/
/-- the name i is looked at where it stands -/
def vBv (i : Nat) : VTE := fun e Q _ => match e[i]? with
  | some (.vr _ _ _) => Q .none e
  | _ => False
/-- an operand: frozen; fresh, owned to a depth; a name looked at where it stands -/
inductive Om where
  | ex
  | fr (k : Nat)
  | bv (i : Nat)
def tO (K : PySem.W.Frag) (W : WX) : Om → VTE → TE
  | .ex, t => tV K W 0 t
  | .fr k, t => tV K W k t
  | .bv i, _ => tVar i
structure VO (X : Cx) (W : WX) (ex : Expr) (o : Om) (t : VTE) : Prop where
  run : PE X ex (tO X.K W o t)
  sk : ∀ i, o = .bv i → t = vBv i
def tmps : List Om → List D → List V → List Root
  | .ex :: os, d :: ds, v :: vs => .val 0 d v :: tmps os ds vs
  | .fr k :: os, d :: ds, v :: vs => .val k d v :: tmps os ds vs
  | .bv _ :: os, _ :: ds, _ :: vs => tmps os ds vs
  | _, _, _ => []
inductive Opds (σ : St) : List Om → List D → List V → Prop
  | nil : Opds σ [] [] []
  | ex {os ds vs d v} : Opds σ os ds vs → Opds σ (.ex :: os) (d :: ds) (v :: vs)
  | fr {os ds vs d v k} : Opds σ os ds vs → Opds σ (.fr k :: os) (d :: ds) (v :: vs)
  | bv {os ds vs d v i} : σ[i]? = some (some v) → Opds σ os ds vs → Opds σ (.bv i :: os) (d :: ds) (v :: vs)
def tA (K : PySem.W.Frag) (W : WX) (os : List Om) (t : VTA) : TA := fun σ H Q => ∃ (P : Pins) (G : Hp) (e : Env) (T : List Root) (Qc : List D → Env → Prop) (Xc : XQ), Rel K P σ H G e T ∧ t e Qc Xc ∧
  (∀ ds e' vs H' G', Qc ds e' → Le G G' → Opds σ os ds vs → Rel K P σ H' G' e' (tmps os ds vs ++ T) → Q vs H') ∧ XOk K W P T σ G Xc
structure VA (X : Cx) (W : WX) (es : List Expr) (os : List Om) (t : VTA) : Prop where
  run : PA X es (tA X.K W os t)
def vNil : VTA := fun e Q _ => Q [] e
def vCons (te : VTE) (ts : VTA) : VTA := fun e Q X => te e (fun d e1 => ts e1 (fun ds e2 => Q (d :: ds) e2) X) X
/-- the operands' data at the end -/
def opGets : List Om → List D → Env → (List D → Prop) → Prop
  | [], _, _, f => f []
  | .ex :: os, d :: ds, e, f => opGets os ds e fun xs => f (d :: xs)
  | .bv i :: os, _ :: ds, e, f => match e[i]? with
    | some (.vr _ k d) => (k ≤ 1 ∨ flat d = true) ∧ opGets os ds e fun xs => f (d :: xs)
    | _ => False
  | _, _, _, _ => False
def vApp (os : List Om) (t : VTA) (op : OPD) : VTE := fun e Q X => t e (fun ds e' => opGets os ds e' fun xs => op xs fun d => Q d e') X
/-- an operation on data, by values -/
def opS (K : PySem.W.Frag) (k : Nat) (op : OPD) : List V → Hp → VK → Prop := fun vs H Q => ∃ (G : Hp) (ds : List D) (q : D → Prop), Le G H ∧ Rep1L K H G ds vs ∧ op ds q ∧ ∀ d w G' H' f, q d → New K G H k d w G' H' f → Q w H'
section
variable {X : Cx} {W : WX} {k : Nat} {ex : Expr} {es : List Expr} {t : VTE} {ts : VTA} {o : Om} {os : List Om} {op : OPD} {K : PySem.W.Frag} {σ : St} {H : Hp}
theorem vo_ex (h : VE X W 0 ex t) : VO X W ex .ex t := ⟨h.run, fun i z => by cases z⟩
theorem vo_fr (h : VE X W k ex t) : VO X W ex (.fr k) t := ⟨h.run, fun i z => by cases z⟩
theorem vo_bv {i : Nat} (h : PE X ex (tVar i)) : VO X W ex (.bv i) (vBv i) := ⟨h, fun j z => by cases z; rfl⟩
theorem tO.mono {Q Q' : VK} (h : tO K W o t σ H Q) (f : ∀ v H', Q v H' → Q' v H') : tO K W o t σ H Q' := by
  cases o with
  | ex => exact tV.mono h f
  | fr k => exact tV.mono h f
  | bv i => obtain ⟨v, h1, h2⟩ := h; exact ⟨v, h1, f _ _ h2⟩
theorem tA_nil {Q : List V → Hp → Prop} (h : tA K W [] vNil σ H Q) : Q [] H := by
  obtain ⟨P, G, e, T, Qc, Xc, r, q, c, x⟩ := h
  exact c [] e [] H G q (Le.refl _) .nil (by simpa [tmps] using r)
theorem tA_cons (sk : ∀ i, o = .bv i → t = vBv i) {Q : List V → Hp → Prop} (h : tA K W (o :: os) (vCons t ts) σ H Q) : tO K W o t σ H fun x H1 => tA K W os ts σ H1 fun xs H2 => Q (x :: xs) H2 := by
  obtain ⟨P, G, e, T, Qc, Xc, r, q, c, x⟩ := h
  cases o with
  | ex =>
    refine ⟨P, G, e, T, _, Xc, r, q, fun d e1 v H1 G1 q1 l1 r1 => ⟨P, G1, e1, .val 0 d v :: T, _, Xc, r1, q1, fun ds e2 vs H2 G2 q2 l2 o2 r2 => c (d :: ds) e2 (v :: vs) H2 G2 q2 (l1.trans l2) (.ex o2) (r2.perm ?_), (x.mono l1).more (S := [.val 0 d v])⟩, x⟩
    show (tmps os ds vs ++ Root.val 0 d v :: T).Perm (Root.val 0 d v :: tmps os ds vs ++ T)
    exact List.perm_middle
  | fr k =>
    refine ⟨P, G, e, T, _, Xc, r, q, fun d e1 v H1 G1 q1 l1 r1 => ⟨P, G1, e1, .val k d v :: T, _, Xc, r1, q1, fun ds e2 vs H2 G2 q2 l2 o2 r2 => c (d :: ds) e2 (v :: vs) H2 G2 q2 (l1.trans l2) (.fr o2) (r2.perm ?_), (x.mono l1).more (S := [.val k d v])⟩, x⟩
    show (tmps os ds vs ++ Root.val k d v :: T).Perm (Root.val k d v :: tmps os ds vs ++ T)
    exact List.perm_middle
  | bv i =>
    have e0 := sk i rfl
    subst e0
    have q : vBv i e _ Xc := q
    unfold vBv at q
    split at q
    · rename_i p k d hi
      obtain ⟨v, h1, _⟩ := r.at hi
      refine ⟨v, h1, P, G, e, T, _, Xc, r, q, fun ds e2 vs H2 G2 q2 l2 o2 r2 => c (.none :: ds) e2 (v :: vs) H2 G2 q2 l2 (.bv h1 o2) r2, x⟩
    · exact q.elim
theorem va_nil : VA X W [] [] vNil := ⟨PA.imp pa_nil fun σ H Q h => tA_nil h⟩
theorem va_cons (he : VO X W ex o t) (hs : VA X W es os ts) (hst : starEach (ex :: es) X.env = (false, eval ex X.env) :: starEach es X.env := by rfl) : VA X W (ex :: es) (o :: os) (vCons t ts) :=
  ⟨PA.imp (pa_cons he.run hs.run hst) fun σ H Q h => tA_cons he.sk h⟩
theorem opGets_ok {P : Pins} {G : Hp} {e : Env} {T : List Root} {os : List Om} {ds : List D} {vs : List V} (o : Opds σ os ds vs) : ∀ {f : List D → Prop}, opGets os ds e f → Rel K P σ H G e (tmps os ds vs ++ T) → ∃ xs, f xs ∧ Rep1L K H G xs vs := by
  induction o with
  | nil => intro f h r; exact ⟨[], h, .nil⟩
  | @ex os ds vs d v o ih =>
    intro f h r
    have r : Rel K P σ H G e (.val 0 d v :: (tmps os ds vs ++ T)) := r
    have h : opGets os ds e fun xs => f (d :: xs) := h
    obtain ⟨xs, h1, h2⟩ := ih h r.tail
    exact ⟨d :: xs, h1, .cons (r.rep.one r.le) h2⟩
  | @fr os ds vs d v k o ih => intro f h r; exact False.elim h
  | @bv os ds vs d v i hs o ih =>
    intro f h r
    have r : Rel K P σ H G e (tmps os ds vs ++ T) := r
    unfold opGets at h
    split at h
    · rename_i p k d' hi
      obtain ⟨hk, h⟩ := h
      obtain ⟨xs, h1, h2⟩ := ih h r
      obtain ⟨v', h3, _, S, h4, _⟩ := r.at hi
      rw [hs] at h3; cases h3
      exact ⟨d' :: xs, h1, .cons (h4.one hk) h2⟩
    · exact h.elim
/-- operands, then the operation -/
theorem app_ok {Q : VK} (h : tV K W k (vApp os ts op) σ H Q) : tA K W os ts σ H fun vs H1 => opS K k op vs H1 Q := by
  obtain ⟨P, G, e, T, Qc, Xc, r, q, c, x⟩ := h
  refine ⟨P, G, e, T, _, Xc, r, q, fun ds e' vs H' G' hq l o r' => ?_, x⟩
  obtain ⟨xs, h1, h2⟩ := opGets_ok o hq r'
  refine ⟨G', xs, _, r'.le, h2, h1, fun d w G2 H2 f qd n => c d e' w H2 G2 qd (l.trans n.le) ?_⟩
  exact (r'.right).temps fun S q => n.relR q
theorem app1 (sk : ∀ i, o = .bv i → t = vBv i) {Q : VK} (h : tV K W k (vApp [o] (vCons t vNil) op) σ H Q) : tO K W o t σ H fun x H1 => opS K k op [x] H1 Q :=
  tO.mono (tA_cons sk (app_ok h)) fun _ _ q => tA_nil q
theorem app2 {o' : Om} {t' : VTE} (sk : ∀ i, o = .bv i → t = vBv i) (sk' : ∀ i, o' = .bv i → t' = vBv i) {Q : VK} (h : tV K W k (vApp [o, o'] (vCons t (vCons t' vNil)) op) σ H Q) :
    tO K W o t σ H fun x H1 => tO K W o' t' σ H1 fun y H2 => opS K k op [x, y] H2 Q :=
  tO.mono (tA_cons sk (app_ok h)) fun _ _ q => tO.mono (tA_cons sk' q) fun _ _ q => tA_nil q
end

/-! ### operators, calls of built-ins, methods, items -/
section
variable {X : Cx} {W : WX} {k : Nat} {a b c x : Expr} {es : List Expr} {t t' t2 : VTE} {ts : VTA} {o o' o2 : Om} {os : List Om} {op op' : OPD} {pos p : Pos}
theorem ve_bin {f : Operator} (h : OpR X (binaryOp f) fun x y => opS X.K k op [x, y]) (ha : VO X W a o t) (hb : VO X W b o' t') : VE X W k (.BinOp a f b pos) (vApp [o, o'] (vCons t (vCons t' vNil)) op) :=
  ⟨PE.imp (pe_op h ha.run hb.run) fun σ H Q q => app2 ha.sk hb.sk q⟩
theorem ve_un {f : UnaryOp} (h : UnR X (unaryOp f) fun x => opS X.K k op [x]) (ha : VO X W a o t) : VE X W k (.UnaryOp f a pos) (vApp [o] (vCons t vNil) op) :=
  ⟨PE.imp (pe_un h ha.run) fun σ H Q q => app1 ha.sk q⟩
theorem ve_cmp {f : CmpOp} (h : OpR X (compareOp f) fun x y => opS X.K k op [x, y]) (ha : VO X W a o t) (hb : VO X W b o' t') (hm : behindInMarks f b = false) : VE X W k (.Compare a [f] [b] pos) (vApp [o, o'] (vCons t (vCons t' vNil)) op) :=
  ⟨PE.imp (pe_cmpR h ha.run hb.run hm) fun σ H Q q => app2 ha.sk hb.sk q⟩
theorem ve_callB {n : Str} {id : String} (h : CallR X (.builtin id) (opS X.K k op)) (hg : Gl X n) (hm : X.mg n = none) (hv : bootBuiltins n = some (.builtin id)) (ha : VA X W (a :: es) os ts) (hn : n ≠ "__name__" := by decide) (hdb : (n == ("__debug__" : Str)) = false := by decide)
    (he : starEach (a :: es) X.env = (false, eval a X.env) :: starEach es X.env := by rfl) (hpl : (backTo pos (starEach es X.env)).any (·.1) = false := by rfl) : VE X W k (.Call (.Name n p) (a :: es) [] pos) (vApp os ts op) :=
  ⟨PE.imp (pe_callB h hg hm hv ha.run hn hdb he hpl) fun σ H Q q => app_ok q⟩
theorem ve_callTy {n : Str} {T : String} (h : CallR X (.type T) (opS X.K k op)) (hg : Gl X n) (hm : X.mg n = none) (hv : bootBuiltins n = some (.type T)) (ha : VA X W (a :: es) os ts) (hn : n ≠ "__name__" := by decide) (hdb : (n == ("__debug__" : Str)) = false := by decide)
    (he : starEach (a :: es) X.env = (false, eval a X.env) :: starEach es X.env := by rfl) (hpl : (backTo pos (starEach es X.env)).any (·.1) = false := by rfl) : VE X W k (.Call (.Name n p) (a :: es) [] pos) (vApp os ts op) :=
  ⟨PE.imp (pe_callTy h hg hm hv ha.run hn hdb he hpl) fun σ H Q q => app_ok q⟩
theorem ve_ix (h : IxR X fun x y => opS X.K k op [x, y]) (ha : VO X W a o t) (hb : VO X W b o' t') (hs : PlainIx b) : VE X W k (.Subscript a b pos) (vApp [o, o'] (vCons t (vCons t' vNil)) op) :=
  ⟨PE.imp (pe_ix h ha.run hb.run hs) fun σ H Q q => app2 ha.sk hb.sk q⟩
end
end VL

/-! VL4: methods, slices, displays, tests, and, or, not -/
namespace VL
open PySem L2

/-! ### methods of built-in types -/
def tyD (T : String) : D → Prop
  | .str _ => T = "str"
  | .int _ => T = "int"
  | .list _ => T = "list"
  | .dict _ => T = "dict"
  | _ => False
def tyV2 (K : PySem.W.Frag) (T : String) (x : V) (H : Hp) : Prop := tyV K T x H ∨ (T = "dict" ∧ ∃ p, x = .ref p ∧ IsD H p)
theorem tyV2_is {X : Cx} {pins : List (Addr × Obj)} {σ : St} {H : Hp} {s : Shared} {T : String} {x : V} {v : Value} (I : Inv X pins σ H s) (r : RelV x v) (ty : tyV2 X.K T x H) :
    s.TypeIs v T ∧ ∀ a, v = .ref a → ∃ ob, s.heap.get? a = some ob ∧ ob.dict = none := by
  rcases ty with ty | ⟨rfl, p, rfl, h⟩
  · exact tyV_is I r ty
  · cases r
    exact ⟨(isD_at I h).1, (isD_at I h).2.1⟩
theorem tyV2_of {K : PySem.W.Frag} {H G : Hp} {T : String} {d : D} {v : V} (r : Rep1 K H G d v) (h : tyD T d) : tyV2 K T v H := by
  cases d with
  | str x => have e : v = .str x := by { have r : Rep K G (.str x) v := r; rw [Rep] at r; exact r }
             subst e; exact .inl h
  | int i => have e : v = .int i := by { have r : Rep K G (.int i) v := r; rw [Rep] at r; exact r }
             subst e; exact .inl h
  | list ds =>
    obtain ⟨a, vs, rfl, hs, _⟩ := r
    exact .inl (.inl ⟨h, vs, hs⟩)
  | dict kvs =>
    obtain ⟨a, vs, rfl, hs, _⟩ := r
    refine .inr ⟨h, a, rfl, ?_⟩
    rcases hs with ⟨q, _, _, z⟩ | ⟨q, _, _, _, _, z⟩
    · exact .inl ⟨_, z⟩
    · exact .inr ⟨_, z⟩
  | _ => exact h.elim
def tBM2 (K : PySem.W.Frag) (T : String) (r : V → List V → Hp → VK → Prop) (to : TE) (t : TA) : TE := fun σ H Q => to σ H fun x H1 => tyV2 K T x H1 ∧ t σ H1 fun xs H2 => r x xs H2 Q
section
variable {X : Cx} {o e : Expr} {es : List Expr} {to : TE} {t : TA} {name : Str} {apos cpos : Pos} {T id : String} {r : V → List V → Hp → VK → Prop}
theorem pe_bm2 (pa : PlainAttrs T) (slot : Slot T name id) (hty : typeOf (.builtin id) = pure (.type "method_descriptor")) (hm : MtR X id r) (ho : PE X o to) (ha : PA X (e :: es) t)
    (hbase : attributeBase o name X.env (eval o X.env) = eval o X.env := by rfl)
    (hfew : ((backTo cpos (starEach (e :: es) X.env)).all (fun x => !x.1) && (backToKw cpos (keywordEach [] X.env)).all (fun x => x.1.isSome)
      && decide ((e :: es).length + ([] : List Keyword).length + (if ([] : List Keyword).isEmpty then 0 else 1) < 30)) = true := by rfl)
    (hline : (apos.endLine == cpos.line) = true := by rfl) (hs : starEach (e :: es) X.env = (false, eval e X.env) :: starEach es X.env := by rfl) (hplain : (backTo cpos (starEach es X.env)).any (·.1) = false := by rfl) :
    PE X (.Call (.Attribute o name apos) (e :: es) [] cpos) (tBM2 X.K T r to t) := by
  refine ⟨fun pins s σ H Q I h => ?_⟩
  refine wpAny_Call_method_late hbase hfew hline rfl (thn (ho.run pins s σ H _ I h) fun v s1 ⟨x, H1, I1, r1, ty, q1⟩ => ?_)
  obtain ⟨h1, h2⟩ := tyV2_is I1 r1 ty
  refine ⟨T, id, pa, slot, hty, h1, h2, ?_⟩
  have hA := ha.run cpos pins s1 σ H1 _ I1 q1
  rw [hs] at hA ⊢
  refine Calls.callWith_builtin (by show (false || (backTo cpos (starEach es X.env)).any (·.1)) = false; rw [hplain] <;> rfl) (Calls.evalArgs_plain ?_)
  exact thn hA fun us s2 ⟨vs, H2, I2, r2, q2⟩ => hm pins s2 σ H2 x vs v us Q I2 r1 r2 q2
theorem pe_bm20 (pa : PlainAttrs T) (slot : Slot T name id) (hty : typeOf (.builtin id) = pure (.type "method_descriptor")) (hm : MtR X id r) (ho : PE X o to)
    (hbase : attributeBase o name X.env (eval o X.env) = eval o X.env := by rfl) (hline : (apos.endLine == cpos.line) = true := by rfl) : PE X (.Call (.Attribute o name apos) [] [] cpos) (tBM2 X.K T r to tNil) := by
  refine ⟨fun pins s σ H Q I h => ?_⟩
  refine wpAny_Call_method0_late hbase hline (thn (ho.run pins s σ H _ I h) fun v s1 ⟨x, H1, I1, r1, ty, q1⟩ => ?_)
  obtain ⟨h1, h2⟩ := tyV2_is I1 r1 ty
  exact ⟨T, id, pa, slot, hty, h1, h2, Calls.callWith_builtin rfl (PySem.evalArgs_none (hm pins s1 σ H1 x [] v [] Q I1 r1 .nil q1))⟩
end
/-- the receiver is of the type T -/
def recvTy (T : String) (o : Om) (d : D) (e : Env) : Prop := match o with
  | .ex => tyD T d
  | .fr _ => False
  | .bv i => match e[i]? with
    | some (.vr _ k d') => (k ≤ 1 ∨ flat d' = true) ∧ tyD T d'
    | _ => False
def vRecv (T : String) (o : Om) (t : VTE) (ts : VTA) : VTA := fun e Q X => t e (fun d e1 => recvTy T o d e1 ∧ ts e1 (fun ds e2 => Q (d :: ds) e2) X) X
section
variable {X : Cx} {W : WX} {k : Nat} {ex : Expr} {es : List Expr} {t : VTE} {ts : VTA} {o : Om} {os : List Om} {op : OPD} {K : PySem.W.Frag} {σ : St} {H : Hp} {T : String}
theorem tA_recv (sk : ∀ i, o = .bv i → t = vBv i) {Q : List V → Hp → Prop} (h : tA K W (o :: os) (vRecv T o t ts) σ H Q) : tO K W o t σ H fun x H1 => tyV2 K T x H1 ∧ tA K W os ts σ H1 fun xs H2 => Q (x :: xs) H2 := by
  obtain ⟨P, G, e, T0, Qc, Xc, r, q, c, x⟩ := h
  cases o with
  | fr k => exact ⟨P, G, e, T0, _, Xc, r, q, fun d e1 v H1 G1 q1 l1 r1 => q1.1.elim, x⟩
  | ex =>
    refine ⟨P, G, e, T0, _, Xc, r, q, fun d e1 v H1 G1 q1 l1 r1 => ⟨tyV2_of (r1.rep.one r1.le) q1.1, P, G1, e1, .val 0 d v :: T0, _, Xc, r1, q1.2, fun ds e2 vs H2 G2 q2 l2 o2 r2 => c (d :: ds) e2 (v :: vs) H2 G2 q2 (l1.trans l2) (.ex o2) (r2.perm ?_), (x.mono l1).more (S := [.val 0 d v])⟩, x⟩
    show (tmps os ds vs ++ Root.val 0 d v :: T0).Perm (Root.val 0 d v :: tmps os ds vs ++ T0)
    exact List.perm_middle
  | bv i =>
    have e0 := sk i rfl
    subst e0
    have q : vBv i e _ Xc := q
    unfold vBv at q
    split at q
    · rename_i p k d hi
      obtain ⟨v, h1, _, S, h2, _⟩ := r.at hi
      obtain ⟨ty, q⟩ := q
      have ty : match e[i]? with
        | some (.vr _ k d') => (k ≤ 1 ∨ flat d' = true) ∧ tyD T d'
        | _ => False := ty
      rw [hi] at ty
      exact ⟨v, h1, tyV2_of (h2.one ty.1) ty.2, P, G, e, T0, _, Xc, r, q, fun ds e2 vs H2 G2 q2 l2 o2 r2 => c (.none :: ds) e2 (v :: vs) H2 G2 q2 l2 (.bv h1 o2) r2, x⟩
    · exact q.elim
variable {name : Str} {apos cpos : Pos} {id : String} {a : Expr}
theorem ve_meth (pa : PlainAttrs T) (slot : Slot T name id) (hty : typeOf (.builtin id) = pure (.type "method_descriptor")) (hm : MtR X id fun x xs => opS X.K k op (x :: xs)) (ho : VO X W ex o t) (ha : VA X W (a :: es) os ts)
    (hbase : attributeBase ex name X.env (eval ex X.env) = eval ex X.env := by rfl)
    (hfew : ((backTo cpos (starEach (a :: es) X.env)).all (fun x => !x.1) && (backToKw cpos (keywordEach [] X.env)).all (fun x => x.1.isSome)
      && decide ((a :: es).length + ([] : List Keyword).length + (if ([] : List Keyword).isEmpty then 0 else 1) < 30)) = true := by rfl)
    (hline : (apos.endLine == cpos.line) = true := by rfl) (hs : starEach (a :: es) X.env = (false, eval a X.env) :: starEach es X.env := by rfl) (hplain : (backTo cpos (starEach es X.env)).any (·.1) = false := by rfl) :
    VE X W k (.Call (.Attribute ex name apos) (a :: es) [] cpos) (vApp (o :: os) (vRecv T o t ts) op) :=
  ⟨PE.imp (pe_bm2 pa slot hty hm ho.run ha.run hbase hfew hline hs hplain) fun σ H Q q => tA_recv ho.sk (app_ok q)⟩
theorem ve_meth0 (pa : PlainAttrs T) (slot : Slot T name id) (hty : typeOf (.builtin id) = pure (.type "method_descriptor")) (hm : MtR X id fun x xs => opS X.K k op (x :: xs)) (ho : VO X W ex o t)
    (hbase : attributeBase ex name X.env (eval ex X.env) = eval ex X.env := by rfl) (hline : (apos.endLine == cpos.line) = true := by rfl) :
    VE X W k (.Call (.Attribute ex name apos) [] [] cpos) (vApp [o] (vRecv T o t vNil) op) :=
  ⟨PE.imp (pe_bm20 pa slot hty hm ho.run hbase hline) fun σ H Q q => tO.mono (tA_recv ho.sk (app_ok q)) fun x H1 ⟨h1, h2⟩ => ⟨h1, tA_nil h2⟩⟩
end

/-! ### slices -/
abbrev VTO := Env → (Option Int → Env → Prop) → XQ → Prop
def tOI (K : PySem.W.Frag) (W : WX) (t : VTO) : TO := fun σ H Q => ∃ (P : Pins) (G : Hp) (e : Env) (T : List Root) (Qc : Option Int → Env → Prop) (Xc : XQ), Rel K P σ H G e T ∧ t e Qc Xc ∧
  (∀ b e' H' G', Qc b e' → Le G G' → Rel K P σ H' G' e' T → Q b H') ∧ XOk K W P T σ G Xc
structure VPo (X : Cx) (W : WX) (ex : Option Expr) (t : VTO) : Prop where
  run : PO X ex (tOI X.K W t)
def vNoP : VTO := fun e Q _ => Q none e
def asI : D → (Int → Prop) → Prop
  | .int i, f => f i
  | _, _ => False
def vPart (t : VTE) : VTO := fun e Q X => t e (fun d e1 => asI d fun i => Q (some i) e1) X
def vSl (o : Om) (t : VTE) (tl th : VTO) (op : Option Int → Option Int → OPD) : VTE := fun e Q X => t e (fun d e1 => tl e1 (fun l e2 => th e2 (fun u e3 => opGets [o] [d] e3 fun xs => op l u xs fun d => Q d e3) X) X) X
section
variable {X : Cx} {W : WX} {k : Nat} {ex : Expr} {lo hi : Option Expr} {t : VTE} {tl th : VTO} {o : Om} {op : Option Int → Option Int → OPD} {pos p2 : Pos}
theorem PO.imp {ex : Option Expr} {te te' : TO} (h : PO X ex te) (f : ∀ σ H Q, te' σ H Q → te σ H Q) : PO X ex te' := ⟨fun pins s σ H Q I q => h.run pins s σ H Q I (f σ H Q q)⟩
theorem vpo_none : VPo X W none vNoP := ⟨PO.imp po_none fun σ H Q ⟨P, G, e, T, Qc, Xc, r, q, c, x⟩ => c none e H G q (Le.refl _) r⟩
theorem vpo_some (h : VE X W 0 ex t) : VPo X W (some ex) (vPart t) := ⟨PO.imp (po_some h.run) fun σ H Q ⟨P, G, e, T, Qc, Xc, r, q, c, x⟩ =>
  ⟨P, G, e, T, _, Xc, r, q, fun d e' v H' G' q1 l r1 => by
    cases d with
    | int i =>
      have e1 := r1.rep
      rw [Rep] at e1
      exact ⟨i, e1, c _ e' H' G' q1 l r1.tail⟩
    | _ => exact q1.elim, x⟩⟩
theorem ve_slice (h : SlR X fun x l u => opS X.K k (op l u) [x]) (ha : VO X W ex o t) (hl : VPo X W lo tl) (hu : VPo X W hi th) : VE X W k (.Subscript ex (.Slice lo hi none p2) pos) (vSl o t tl th op) :=
  ⟨PE.imp (pe_slice h ha.run hl.run hu.run) fun σ H Q ⟨P, G, e, T, Qc, Xc, r, q, c, x⟩ => by
    have main : ∀ (d : D) (v : V) (H1 G1 : Hp) (e1 : Env) (T1 : List Root), Le G G1 → T1 = tmps [o] [d] [v] ++ T → (∀ i, o = .bv i → σ[i]? = some (some v)) → Rel X.K P σ H1 G1 e1 T1 →
        tl e1 (fun l e2 => th e2 (fun u e3 => opGets [o] [d] e3 fun xs => op l u xs fun d => Qc d e3) Xc) Xc →
        tOI X.K W tl σ H1 fun l H2 => tOI X.K W th σ H2 fun u H3 => opS X.K k (op l u) [v] H3 Q := fun d v H1 G1 e1 T1 l1 hT ho r1 q1 => by
      have x1 : XOk X.K W P T1 σ G1 Xc := by rw [hT]; exact (x.mono l1).more
      refine ⟨P, G1, e1, T1, _, Xc, r1, q1, fun l e2 H2 G2 q2 l2 r2 => ⟨P, G2, e2, T1, _, Xc, r2, q2, fun u e3 H3 G3 q3 l3 r3 => ?_, x1.mono l2⟩, x1⟩
      have od : Opds σ [o] [d] [v] := by
        cases o with
        | ex => exact .ex .nil
        | fr k => exact .fr .nil
        | bv i => exact .bv (ho i rfl) .nil
      rw [hT] at r3
      obtain ⟨xs, h1, h2⟩ := opGets_ok od q3 r3
      refine ⟨G3, xs, _, r3.le, h2, h1, fun d w G4 H4 f qd n => c d e3 w H4 G4 qd (l1.trans (l2.trans (l3.trans n.le))) ?_⟩
      exact (r3.right).temps fun S q => n.relR q
    cases o with
    | ex => exact ⟨P, G, e, T, _, Xc, r, q, fun d e1 v H1 G1 q1 l1 r1 => main d v H1 G1 e1 (.val 0 d v :: T) l1 rfl (fun i z => by cases z) r1 q1, x⟩
    | fr k' => exact ⟨P, G, e, T, _, Xc, r, q, fun d e1 v H1 G1 q1 l1 r1 => main d v H1 G1 e1 (.val k' d v :: T) l1 rfl (fun i z => by cases z) r1 q1, x⟩
    | bv i =>
      have e0 := ha.sk i rfl
      subst e0
      have q : vBv i e _ Xc := q
      unfold vBv at q
      split at q
      · rename_i p k d hi
        obtain ⟨v, h1, _⟩ := r.at hi
        exact ⟨v, h1, main .none v H G e T (Le.refl _) rfl (fun j z => by cases z; exact h1) r q⟩
      · exact q.elim⟩
end

/-! ### displays -/
def tEs (K : PySem.W.Frag) (W : WX) (k : Nat) (t : VTA) : TA := fun σ H Q => ∃ (P : Pins) (G : Hp) (e : Env) (T : List Root) (Qc : List D → Env → Prop) (Xc : XQ), Rel K P σ H G e T ∧ t e Qc Xc ∧
  (∀ ds e' vs H' G', Qc ds e' → Le G G' → ds.length = vs.length → Rel K P σ H' G' e' (vals k ds vs ++ T) → Q vs H') ∧ XOk K W P T σ G Xc
structure VEs (X : Cx) (W : WX) (k : Nat) (es : List Expr) (t : VTA) : Prop where
  run : PA X es (tEs X.K W k t)
def vList (t : VTA) : VTE := fun e Q X => t e (fun ds e' => ds.length ≤ sizeLine ∧ Q (.list ds) e') X
def vTup (t : VTA) : VTE := fun e Q X => t e (fun ds e' => ds.length ≤ sizeLine ∧ Q (.tuple ds) e') X
section
variable {X : Cx} {W : WX} {k : Nat} {ex : Expr} {es : List Expr} {t : VTE} {ts : VTA} {pos : Pos}
theorem ves_nil : VEs X W k [] vNil := ⟨PA.imp pa_nil fun σ H Q ⟨P, G, e, T, Qc, Xc, r, q, c, x⟩ => c [] e [] H G q (Le.refl _) rfl (by simpa [vals] using r)⟩
theorem ves_cons (he : VE X W k ex t) (hs : VEs X W k es ts) (hst : starEach (ex :: es) X.env = (false, eval ex X.env) :: starEach es X.env := by rfl) : VEs X W k (ex :: es) (vCons t ts) :=
  ⟨PA.imp (pa_cons he.run hs.run hst) fun σ H Q ⟨P, G, e, T, Qc, Xc, r, q, c, x⟩ =>
    ⟨P, G, e, T, _, Xc, r, q, fun d e1 v H1 G1 q1 l1 r1 => ⟨P, G1, e1, .val k d v :: T, _, Xc, r1, q1, fun ds e2 vs H2 G2 q2 l2 o2 r2 => c (d :: ds) e2 (v :: vs) H2 G2 q2 (l1.trans l2) (by simp [o2]) (r2.perm (by
      show (vals k ds vs ++ Root.val k d v :: T).Perm (Root.val k d v :: vals k ds vs ++ T)
      exact List.perm_middle)), (x.mono l1).more (S := [.val k d v])⟩, x⟩⟩
theorem ve_list (h : VEs X W k es ts) : VE X W (k + 1) (.List es pos) (vList ts) :=
  ⟨PE.imp (pe_lst h.run) fun σ H Q ⟨P, G, e, T, Qc, Xc, r, q, c, x⟩ => ⟨P, G, e, T, _, Xc, r, q, fun ds e' vs H' G' ⟨hz, q1⟩ l hl r1 => ⟨by rw [← hl]; exact hz, fun p hp => c _ e' _ _ G' q1 l (r1.temps fun S z => by
    rw [List.append_assoc] at z
    exact (z.new hp).closeL hl)⟩, x⟩⟩
theorem ve_tup {x1} (h : VEs X W k es ts) : VE X W (k + 1) (.Tuple es x1 pos) (vTup ts) :=
  ⟨PE.imp (pe_tup h.run) fun σ H Q ⟨P, G, e, T, Qc, Xc, r, q, c, x⟩ => ⟨P, G, e, T, _, Xc, r, q, fun ds e' vs H' G' ⟨hz, q1⟩ l hl r1 => ⟨by rw [← hl]; exact hz, fun p hp => by
    obtain ⟨G2, l2, r2⟩ := r1.temps' (T' := .val (k + 1) (.tuple ds) (.ref p) :: T) (H' := upd H' p (.tup vs)) fun S z => by
      obtain ⟨G2, l2, z2, e2⟩ := z.newT (vs := vs) hp
      rw [List.append_assoc] at z2
      exact ⟨G2, l2, z2.closeT hl e2⟩
    exact c _ e' _ _ G2 q1 (l.trans l2) r2⟩, x⟩⟩
theorem ve_dK : VE X W (k + 1) (.Dict [] [] pos) (vK (.dict [])) := VE.of pe_dnewK fun P σ H G e T Qc Xc Q r q c _ p hp => c _ e _ _ G q (Le.refl _) (r.temps fun S z => (z.new hp).closeD (vs := []) rfl (.inl ⟨[], rfl, rfl, rfl⟩))
theorem ve_dT : VE X W (k + 1) (.Dict [] [] pos) (vK (.dict [(.none, .none)])) := VE.of pe_dnewT fun P σ H G e T Qc Xc Q r q c _ p hp => c _ e _ _ G q (Le.refl _) (r.temps fun S z => by
  have z1 : RelR X.K H G (.val k .none .non :: (T ++ S)) := (New.old' (k := k) z.le (by rw [Rep]) (.inr rfl)).relR z
  exact (z1.new hp).closeD (k := k) (kvs := [(.none, .none)]) (vs := [.non]) rfl (.inr ⟨[], [], rfl, rfl, rfl, rfl⟩))
end

/-! ### tests -/
def asB : D → (Bool → Prop) → Prop
  | .bool b, f => f b
  | _, _ => False
def vTB (t : VTE) : VTT := fun e Q X => t e (fun d e1 => asB d fun b => Q b e1) X
/-- a datum's truth -/
def truD : D → (Bool → Prop) → Prop
  | .none, f => f false
  | .bool b, f => f b
  | .int i, f => f (i != 0)
  | .str x, f => x.length ≤ sizeLine ∧ f ((x.length : Int) != 0)
  | .list xs, f => f (!xs.isEmpty)
  | .tuple xs, f => f (!xs.isEmpty)
  | _, _ => False
def vTru (t : VTE) : VTT := fun e Q X => t e (fun d e1 => truD d fun b => Q b e1) X
def vNotT (t : VTT) : VTT := fun e Q X => t e (fun b e1 => Q (!b) e1) X
def vAndT (t u : VTT) : VTT := fun e Q X => t e (fun b e1 => if b = true then u e1 Q X else Q false e1) X
def vOrT (t u : VTT) : VTT := fun e Q X => t e (fun b e1 => if b = true then Q true e1 else u e1 Q X) X
def vNotV (t : VTE) : VTE := fun e Q X => t e (fun d e1 => asB d fun b => Q (.bool (!b)) e1) X
def vAndV (t u : VTE) : VTE := fun e Q X => t e (fun d e1 => asB d fun b => if b = true then u e1 Q X else Q (.bool false) e1) X
def vOrV (t u : VTE) : VTE := fun e Q X => t e (fun d e1 => asB d fun b => if b = true then Q (.bool true) e1 else u e1 Q X) X
def vIfE (c : VTT) (t u : VTE) : VTE := fun e Q X => c e (fun b e1 => if b = true then t e1 Q X else u e1 Q X) X
section
variable {X : Cx} {W : WX} {k : Nat} {a b c : Expr} {rest : List Expr} {t u : VTE} {tt ut : VTT} {pos : Pos}
theorem asB_ok {K : PySem.W.Frag} {P : Pins} {σ : St} {H G : Hp} {e : Env} {T : List Root} {d : D} {v : V} {f : Bool → Prop} (r : Rel K P σ H G e (.val 0 d v :: T)) (h : asB d f) : ∃ b, v = .bl b ∧ d = .bool b ∧ f b := by
  cases d with
  | bool b => have e1 := r.rep; rw [Rep] at e1; exact ⟨b, e1, rfl, h⟩
  | _ => exact h.elim
theorem vt_cmp {f : CmpOp} {op : OPD} {o o' : Om} (h : OpR X (compareOp f) fun x y => opS X.K 0 op [x, y]) (ha : VO X W a o t) (hb : VO X W b o' u) (hm : behindInMarks f b = false) : VT X W (.Compare a [f] [b] pos) (vTB (vApp [o, o'] (vCons t (vCons u vNil)) op)) :=
  ⟨PT.imp (pt_cmpR h ha.run hb.run hm) fun σ H Q ⟨P, G, e, T, Qc, Xc, r, q, c, x⟩ => by
    have z : tV X.K W 0 (vApp [o, o'] (vCons t (vCons u vNil)) op) σ H (fun x H' => ∃ k, x = .bl k ∧ Q k H') := ⟨P, G, e, T, _, Xc, r, q, fun d e' v H' G' q1 l r1 => by
      obtain ⟨b, h1, _, h2⟩ := asB_ok r1 q1
      exact ⟨b, h1, c b e' H' G' h2 l r1.tail⟩, x⟩
    exact app2 ha.sk hb.sk z⟩
theorem vt_val (h : VE X W 0 a t) (he : ∀ whole, isTrue a X.env whole = (do let v ← whole; standAt a.pos; holding [v] (truthy v)) := by intro _; rfl) : VT X W a (vTB t) :=
  ⟨PT.imp (pt_val h.run he) fun σ H Q ⟨P, G, e, T, Qc, Xc, r, q, c, x⟩ => ⟨P, G, e, T, _, Xc, r, q, fun d e' v H' G' q1 l r1 => by
      obtain ⟨b, h1, _, h2⟩ := asB_ok r1 q1
      exact ⟨b, h1, c b e' H' G' h2 l r1.tail⟩, x⟩⟩
theorem vt_tru (h : VE X W 0 a t) (he : ∀ whole, isTrue a X.env whole = (do let v ← whole; standAt a.pos; holding [v] (truthy v)) := by intro _; rfl) : VT X W a (vTru t) :=
  ⟨PT.imp (pt_truth h.run he) fun σ H Q ⟨P, G, e, T, Qc, Xc, r, q, c, x⟩ => ⟨P, G, e, T, _, Xc, r, q, fun d e' v H' G' q1 l r1 => by
      have rp := r1.rep
      cases d with
      | none => rw [Rep] at rp; subst rp; exact ⟨false, rfl, c _ e' H' G' q1 l r1.tail⟩
      | bool b => rw [Rep] at rp; subst rp; exact ⟨b, rfl, c _ e' H' G' q1 l r1.tail⟩
      | int i => rw [Rep] at rp; subst rp; exact ⟨_, rfl, c _ e' H' G' q1 l r1.tail⟩
      | str z => rw [Rep] at rp; subst rp; exact ⟨_, ⟨q1.1, rfl⟩, c _ e' H' G' q1.2 l r1.tail⟩
      | list ds =>
        have hl : ∀ {vs : List V}, RepL X.K G' ds vs → ds.isEmpty = vs.isEmpty := fun {vs} h => by
          have := h.length
          cases ds <;> cases vs <;> simp_all
        rw [Rep] at rp
        obtain ⟨a, vs, rfl, h1, h2⟩ := rp
        exact ⟨_, .inl ⟨vs, r1.le.sqL h1, rfl⟩, by rw [← hl h2]; exact c _ e' H' G' q1 l r1.tail⟩
      | tuple ds =>
        have hl : ∀ {vs : List V}, RepL X.K G' ds vs → ds.isEmpty = vs.isEmpty := fun {vs} h => by
          have := h.length
          cases ds <;> cases vs <;> simp_all
        rw [Rep] at rp
        obtain ⟨a, vs, rfl, h1, h2⟩ := rp
        exact ⟨_, .inr (.inl ⟨vs, SqT.of (r1.le.tup h1), rfl⟩), by rw [← hl h2]; exact c _ e' H' G' q1 l r1.tail⟩
      | dict kvs => exact q1.elim, x⟩⟩
theorem vt_not (h : VT X W a tt) : VT X W (.UnaryOp .Not a pos) (vNotT tt) :=
  ⟨PT.imp (pt_not h.run) fun σ H Q ⟨P, G, e, T, Qc, Xc, r, q, c, x⟩ => ⟨P, G, e, T, _, Xc, r, q, fun b e' H' G' q1 l r1 => c (!b) e' H' G' q1 l r1, x⟩⟩
theorem VW.vt (h : VW X W a tt) : VT X W a tt := ⟨PW.pt h.run⟩
theorem vw_and1 (h : VT X W a tt) : VW X W (.BoolOp .And [a] pos) tt := ⟨pw_and1 h.run⟩
theorem vw_or1 (h : VT X W a tt) : VW X W (.BoolOp .Or [a] pos) tt := ⟨pw_or1 h.run⟩
theorem vw_and (ha : VT X W a tt) (hb : VW X W (.BoolOp .And (b :: rest) pos) ut) : VW X W (.BoolOp .And (a :: b :: rest) pos) (vAndT tt ut) :=
  ⟨PW.imp (pw_and ha.run hb.run) fun σ H Q ⟨P, G, e, T, Qc, Xc, r, q, c, x⟩ => ⟨P, G, e, T, _, Xc, r, q, fun b e' H' G' q1 l r1 => by
    cases b with
    | true =>
      rw [if_pos rfl] at q1 ⊢
      exact ⟨P, G', e', T, _, Xc, r1, q1, fun b e2 H2 G2 q2 l2 r2 => c b e2 H2 G2 q2 (l.trans l2) r2, x.mono l⟩
    | false =>
      rw [if_neg Bool.false_ne_true] at q1 ⊢
      exact c false e' H' G' q1 l r1, x⟩⟩
theorem vw_or (ha : VT X W a tt) (hb : VW X W (.BoolOp .Or (b :: rest) pos) ut) : VW X W (.BoolOp .Or (a :: b :: rest) pos) (vOrT tt ut) :=
  ⟨PW.imp (pw_or ha.run hb.run) fun σ H Q ⟨P, G, e, T, Qc, Xc, r, q, c, x⟩ => ⟨P, G, e, T, _, Xc, r, q, fun b e' H' G' q1 l r1 => by
    cases b with
    | false =>
      rw [if_neg Bool.false_ne_true] at q1 ⊢
      exact ⟨P, G', e', T, _, Xc, r1, q1, fun b e2 H2 G2 q2 l2 r2 => c b e2 H2 G2 q2 (l.trans l2) r2, x.mono l⟩
    | true =>
      rw [if_pos rfl] at q1 ⊢
      exact c true e' H' G' q1 l r1, x⟩⟩
theorem ve_one {op} (h : VE X W k a t) : VE X W k (.BoolOp op [a] pos) t := ⟨pe_one h.run⟩
theorem ve_and (ha : VE X W 0 a t) (hb : VE X W k (.BoolOp .And (b :: rest) pos) u) : VE X W k (.BoolOp .And (a :: b :: rest) pos) (vAndV t u) :=
  ⟨PE.imp (pe_and ha.run hb.run) fun σ H Q ⟨P, G, e, T, Qc, Xc, r, q, c, x⟩ => ⟨P, G, e, T, _, Xc, r, q, fun d e' v H' G' q1 l r1 => by
    obtain ⟨b, h1, _, h2⟩ := asB_ok r1 q1
    refine ⟨b, h1, ?_⟩
    cases b with
    | true =>
      rw [if_pos rfl] at h2 ⊢
      exact ⟨P, G', e', T, _, Xc, r1.tail, h2, fun d e2 v H2 G2 q2 l2 r2 => c d e2 v H2 G2 q2 (l.trans l2) r2, x.mono l⟩
    | false =>
      rw [if_neg Bool.false_ne_true] at h2 ⊢
      exact c _ e' _ H' G' h2 l (rel_flat r1.tail (by rw [Rep]) (.inr rfl)), x⟩⟩
theorem ve_or (ha : VE X W 0 a t) (hb : VE X W k (.BoolOp .Or (b :: rest) pos) u) : VE X W k (.BoolOp .Or (a :: b :: rest) pos) (vOrV t u) :=
  ⟨PE.imp (pe_or ha.run hb.run) fun σ H Q ⟨P, G, e, T, Qc, Xc, r, q, c, x⟩ => ⟨P, G, e, T, _, Xc, r, q, fun d e' v H' G' q1 l r1 => by
    obtain ⟨b, h1, _, h2⟩ := asB_ok r1 q1
    refine ⟨b, h1, ?_⟩
    cases b with
    | false =>
      rw [if_neg Bool.false_ne_true] at h2 ⊢
      exact ⟨P, G', e', T, _, Xc, r1.tail, h2, fun d e2 v H2 G2 q2 l2 r2 => c d e2 v H2 G2 q2 (l.trans l2) r2, x.mono l⟩
    | true =>
      rw [if_pos rfl] at h2 ⊢
      exact c _ e' _ H' G' h2 l (rel_flat r1.tail (by rw [Rep]) (.inr rfl)), x⟩⟩
theorem ve_not (ha : VE X W 0 a t) : VE X W k (.UnaryOp .Not a pos) (vNotV t) :=
  ⟨PE.imp (pe_not ha.run) fun σ H Q ⟨P, G, e, T, Qc, Xc, r, q, c, x⟩ => ⟨P, G, e, T, _, Xc, r, q, fun d e' v H' G' q1 l r1 => by
    obtain ⟨b, h1, _, h2⟩ := asB_ok r1 q1
    exact ⟨b, h1, c _ e' _ H' G' h2 l (rel_flat r1.tail (by rw [Rep]) (.inr rfl))⟩, x⟩⟩
theorem ve_ifE (hc : VT X W c tt) (ha : VE X W k a t) (hb : VE X W k b u) : VE X W k (.IfExp c a b pos) (vIfE tt t u) :=
  ⟨PE.imp (pe_ifExp hc.run ha.run hb.run) fun σ H Q ⟨P, G, e, T, Qc, Xc, r, q, c, x⟩ => ⟨P, G, e, T, _, Xc, r, q, fun b e' H' G' q1 l r1 => by
    cases b with
    | true =>
      rw [if_pos rfl] at q1 ⊢
      exact ⟨P, G', e', T, _, Xc, r1, q1, fun d e2 v H2 G2 q2 l2 r2 => c d e2 v H2 G2 q2 (l.trans l2) r2, x.mono l⟩
    | false =>
      rw [if_neg Bool.false_ne_true] at q1 ⊢
      exact ⟨P, G', e', T, _, Xc, r1, q1, fun d e2 v H2 G2 q2 l2 r2 => c d e2 v H2 G2 q2 (l.trans l2) r2, x.mono l⟩, x⟩⟩
end
end VL

/-! VL5: statements, loops, comprehensions -/
namespace VL
open PySem L2

structure VEnds where
  nx : Env → Prop
  rt : D → Env → Prop
  bk : Env → Prop
  ct : Env → Prop
  ex : Value → Env → Prop
abbrev VTS := VEnds → Env → Prop
structure EndsOk (K : PySem.W.Frag) (W : WX) (kr : Nat) (P : Pins) (T : List Root) (G : Hp) (Dc : VEnds) (D : Ends) : Prop where
  nx : ∀ e' σ' H' G', Dc.nx e' → Le G G' → Rel K P σ' H' G' e' T → D.nx σ' H'
  rt : ∀ d e' v σ' H' G', Dc.rt d e' → Le G G' → Rel K P σ' H' G' e' (.val kr d v :: T) → D.rt v H'
  bk : ∀ e' σ' H' G', Dc.bk e' → Le G G' → Rel K P σ' H' G' e' T → D.bk σ' H'
  ct : ∀ e' σ' H' G', Dc.ct e' → Le G G' → Rel K P σ' H' G' e' T → D.ct σ' H'
  ex : ∀ c e' σ' H' G', Dc.ex c e' → Le G G' → Rel K P σ' H' G' e' T → W c none σ' H'
def tS (K : PySem.W.Frag) (W : WX) (kr : Nat) (t : VTS) : TS := fun D σ H => ∃ (P : Pins) (G : Hp) (e : Env) (T : List Root) (Dc : VEnds), Rel K P σ H G e T ∧ t Dc e ∧ EndsOk K W kr P T G Dc D
structure VS (X : Cx) (W : WX) (kr : Nat) (st : Stmt) (t : VTS) : Prop where
  run : PS X st (tS X.K W kr t)
structure VSs (X : Cx) (W : WX) (kr : Nat) (st : List Stmt) (t : VTS) : Prop where
  run : PSs X st (tS X.K W kr t)
section
variable {K : PySem.W.Frag} {W : WX} {kr : Nat} {P : Pins} {T : List Root} {G G' : Hp} {Dc : VEnds} {D : Ends} {σ : St}
theorem EndsOk.mono (h : EndsOk K W kr P T G Dc D) (l : Le G G') : EndsOk K W kr P T G' Dc D :=
  ⟨fun e' σ' H' G2 q l2 r => h.nx e' σ' H' G2 q (l.trans l2) r, fun d e' v σ' H' G2 q l2 r => h.rt d e' v σ' H' G2 q (l.trans l2) r, fun e' σ' H' G2 q l2 r => h.bk e' σ' H' G2 q (l.trans l2) r,
   fun e' σ' H' G2 q l2 r => h.ct e' σ' H' G2 q (l.trans l2) r, fun c e' σ' H' G2 q l2 r => h.ex c e' σ' H' G2 q (l.trans l2) r⟩
theorem EndsOk.more {S : List Root} (h : EndsOk K W kr P T G Dc D) : EndsOk K W kr P (S ++ T) G Dc D :=
  ⟨fun e' σ' H' G2 q l2 r => h.nx e' σ' H' G2 q l2 r.right, fun d e' v σ' H' G2 q l2 r => h.rt d e' v σ' H' G2 q l2 (r.temps fun U z => by
      have z2 : RelR K H' G2 (.val kr d v :: (S ++ (T ++ U))) := by simpa using z
      have z3 : RelR K H' G2 (S ++ (.val kr d v :: (T ++ U))) := z2.perm List.perm_middle.symm
      exact z3.right), fun e' σ' H' G2 q l2 r => h.bk e' σ' H' G2 q l2 r.right,
   fun e' σ' H' G2 q l2 r => h.ct e' σ' H' G2 q l2 r.right, fun c e' σ' H' G2 q l2 r => h.ex c e' σ' H' G2 q l2 r.right⟩
theorem EndsOk.x (h : EndsOk K W kr P T G Dc D) : XOk K W P T σ G Dc.ex := fun c e' H' G' q l r => h.ex c e' σ H' G' q l r
end

/-! ### small statements -/
def vNext : VTS := fun D e => D.nx e
def vSeq (t u : VTS) : VTS := fun D e => t { D with nx := fun e' => u D e' } e
def vBreak : VTS := fun D e => D.bk e
def vCont : VTS := fun D e => D.ct e
def vDrop (t : VTE) : VTS := fun D e => t e (fun _ e' => D.nx e') D.ex
def vRet (t : VTE) : VTS := fun D e => t e D.rt D.ex
def vRetN : VTS := fun D e => D.rt .none e
def vIf (c : VTT) (t u : VTS) : VTS := fun D e => c e (fun b e' => if b = true then t D e' else u D e') D.ex
def vSet (k i : Nat) (t : VTE) : VTS := fun D e => t e (fun d e' => free e' i ∧ D.nx (e'.set i (.vr false k d))) D.ex
def vAug (i : Nat) (o : Om) (t : VTE) (op : OPD) : VTS := fun D e => vBv i e (fun _ e0 => t e0 (fun d e' => opGets [.bv i, o] [.none, d] e' fun xs => op xs fun d => free e' i ∧ D.nx (e'.set i (.vr false 0 d))) D.ex) D.ex
section
variable {X : Cx} {W : WX} {k kr : Nat} {ex c : Expr} {t : VTE} {tc : VTT} {ts us : VTS} {st : Stmt} {rest a b : List Stmt} {pos pos' : Pos}
theorem vss_nil : VSs X W kr [] vNext := ⟨PSs.imp pss_nil fun D σ H ⟨P, G, e, T, Dc, r, q, o⟩ => o.nx e σ H G q (Le.refl _) r⟩
theorem vss_cons (h1 : VS X W kr st ts) (h2 : VSs X W kr rest us) : VSs X W kr (st :: rest) (vSeq ts us) :=
  ⟨PSs.imp (pss_cons h1.run h2.run) fun D σ H ⟨P, G, e, T, Dc, r, q, o⟩ => ⟨P, G, e, T, { Dc with nx := fun e' => us Dc e' }, r, q,
    ⟨fun e' σ' H' G' q' l r' => ⟨P, G', e', T, Dc, r', q', o.mono l⟩, o.rt, o.bk, o.ct, o.ex⟩⟩⟩
theorem vss_one (h1 : VS X W kr st ts) : VSs X W kr [st] ts := ⟨pss_one h1.run⟩
theorem vs_pass : VS X W kr (.Pass pos) vNext := ⟨PS.imp ps_pass fun D σ H ⟨P, G, e, T, Dc, r, q, o⟩ => o.nx e σ H G q (Le.refl _) r⟩
theorem vs_break : VS X W kr (.Break pos) vBreak := ⟨PS.imp ps_break fun D σ H ⟨P, G, e, T, Dc, r, q, o⟩ => o.bk e σ H G q (Le.refl _) r⟩
theorem vs_continue : VS X W kr (.Continue pos) vCont := ⟨PS.imp ps_continue fun D σ H ⟨P, G, e, T, Dc, r, q, o⟩ => o.ct e σ H G q (Le.refl _) r⟩
theorem vs_doc {x j p2} : VS X W kr (.Expr (.Constant (.str x) j p2) pos) vNext := ⟨PS.imp ps_doc fun D σ H ⟨P, G, e, T, Dc, r, q, o⟩ => o.nx e σ H G q (Le.refl _) r⟩
theorem vs_expr (h : VE X W k ex t) (hs : swapsWith ex none pos.line X.env = pure false := by rfl) : VS X W kr (.Expr ex pos) (vDrop t) :=
  ⟨PS.imp (ps_expr h.run hs) fun D σ H ⟨P, G, e, T, Dc, r, q, o⟩ => ⟨P, G, e, T, _, _, r, q, fun d e' v H' G' q' l r' => o.nx e' σ H' G' q' l r'.tail, o.x⟩⟩
theorem vs_ret (h : VE X W kr ex t) : VS X W kr (.Return (some ex) pos) (vRet t) :=
  ⟨PS.imp (ps_ret h.run) fun D σ H ⟨P, G, e, T, Dc, r, q, o⟩ => ⟨P, G, e, T, _, _, r, q, fun d e' v H' G' q' l r' => o.rt d e' v σ H' G' q' l r', o.x⟩⟩
theorem vs_retN : VS X W kr (.Return none pos) vRetN := ⟨PS.imp ps_retN fun D σ H ⟨P, G, e, T, Dc, r, q, o⟩ => o.rt .none e _ σ H G q (Le.refl _) (rel_flat r (by rw [Rep]) (.inr rfl))⟩
theorem vs_if (hc : VT X W c tc) (ha : VSs X W kr a ts) (hb : VSs X W kr b us) : VS X W kr (.If c a b pos) (vIf tc ts us) :=
  ⟨PS.imp (ps_if hc.run ha.run hb.run) fun D σ H ⟨P, G, e, T, Dc, r, q, o⟩ => ⟨P, G, e, T, _, _, r, q, fun b e' H' G' q' l r' => by
    cases b with
    | true => rw [if_pos rfl] at q' ⊢; exact ⟨P, G', e', T, Dc, r', q', o.mono l⟩
    | false => rw [if_neg Bool.false_ne_true] at q' ⊢; exact ⟨P, G', e', T, Dc, r', q', o.mono l⟩, o.x⟩⟩
theorem vs_set {i : Nat} {x : Str} (hN : X.N.Nodup) (hi : X.N[i]? = some x) (hx : Loc X.env.scope x) (he : VE X W k ex t) (hs : swapsWith ex (some (.Name x pos')) pos.line X.env = pure false := by rfl)
    (hf : X.fn x = true ∨ X.env.scope.names.lookup x = some .local := by first | exact .inl rfl | exact .inr rfl | assumption) : VS X W kr (.Assign [.Name x pos'] ex pos) (vSet k i t) :=
  ⟨PS.imp (ps_set hN hi hx he.run hs hf) fun D σ H ⟨P, G, e, T, Dc, r, q, o⟩ => ⟨P, G, e, T, _, _, r, q, fun d e' v H' G' ⟨hfr, q'⟩ l r' => o.nx _ _ H' G' q' l (r'.store hfr), o.x⟩⟩
theorem vs_aug {i : Nat} {x : Str} {f : Operator} {op : OPD} {o1 : Om} (hN : X.N.Nodup) (hi : X.N[i]? = some x) (hx : Loc X.env.scope x) (he : VO X W ex o1 t) (ho : PIp X f fun x y => opS X.K 0 op [x, y])
    (hf : X.fn x = true ∨ X.env.scope.names.lookup x = some .local := by first | exact .inl rfl | exact .inr rfl | assumption) : VS X W kr (.AugAssign (.Name x pos') f ex pos) (vAug i o1 t op) :=
  ⟨PS.imp (ps_aug hN hi hx he.run ho hf) fun En σ H ⟨P, G, e, T, Dc, r, q, o⟩ => by
    have q : vBv i e (fun _ e0 => t e0 (fun d e' => opGets [.bv i, o1] [.none, d] e' fun xs => op xs fun d => free e' i ∧ Dc.nx (e'.set i (.vr false 0 d))) Dc.ex) Dc.ex := q
    unfold vBv at q
    split at q
    · rename_i p k d hi
      obtain ⟨v, hv, _⟩ := r.at hi
      refine ⟨v, hv, ?_⟩
      have main : ∀ (d : D) (u : V) (H1 G1 : Hp) (e1 : Env) (S : List Root), Le G G1 → S = tmps [o1] [d] [u] → Opds σ [o1] [d] [u] → Rel X.K P σ H1 G1 e1 (S ++ T) →
          (opGets [.bv i, o1] [.none, d] e1 fun xs => op xs fun d => free e1 i ∧ Dc.nx (e1.set i (.vr false 0 d))) → opS X.K 0 op [v, u] H1 fun z H2 => En.nx (σ.set i (some z)) H2 := fun d u H1 G1 e1 S l1 hS od r1 q1 => by
        subst hS
        obtain ⟨xs, h1, h2⟩ := opGets_ok (os := [.bv i, o1]) (ds := [.none, d]) (vs := [v, u]) (.bv hv od) q1 r1
        refine ⟨G1, xs, _, r1.le, h2, h1, fun d2 w G2 H2 f ⟨hfr, qd⟩ n => o.nx _ _ H2 G2 qd (l1.trans n.le) (Rel.store ?_ hfr)⟩
        exact (r1.right).temps fun S q => n.relR q
      cases o1 with
      | ex => exact ⟨P, G, e, T, _, _, r, q, fun d e' u H' G' q' l r' => main d u H' G' e' [.val 0 d u] l rfl (.ex .nil) r' q', o.x⟩
      | fr k' => exact ⟨P, G, e, T, _, _, r, q, fun d e' u H' G' q' l r' => main d u H' G' e' [.val k' d u] l rfl (.fr .nil) r' q', o.x⟩
      | bv j =>
        have e0 := he.sk j rfl
        subst e0
        have q : vBv j e _ _ := q
        unfold vBv at q
        split at q
        · rename_i p2 k2 d2 hj
          obtain ⟨u, hu, _⟩ := r.at hj
          exact ⟨u, hu, main .none u H G e [] (Le.refl _) rfl (.bv hu .nil) r q⟩
        · exact q.elim
    · exact q.elim⟩
end
end VL

/-! VL6: targets, what is walked, for, while, comprehensions -/
namespace VL
open PySem L2

/-! ### targets -/
abbrev VTG := D → Env → (Env → Prop) → Prop
abbrev VTGs := List D → Env → (Env → Prop) → Prop
def tG (K : PySem.W.Frag) (is : List Nat) (g : VTG) : TG := fun v σ H Q => ∃ (P : Pins) (G : Hp) (e : Env) (T : List Root) (d : D) (Qc : Env → Prop), Rel K P σ H G e (.val 0 d v :: T) ∧ g d e Qc ∧
  ∀ e' σ' H' G', Qc e' → Le G G' → (∀ j, j ∉ is → σ'[j]? = σ[j]?) → σ'.length = σ.length → Rel K P σ' H' G' e' T → Q σ' H'
def tGs (K : PySem.W.Frag) (is : List Nat) (g : VTGs) : TGs := fun vs σ H Q => ∃ (P : Pins) (G : Hp) (e : Env) (T : List Root) (ds : List D) (Qc : Env → Prop), RepL K G ds vs ∧ Rel K P σ H G e T ∧ g ds e Qc ∧
  ∀ e' σ' H' G', Qc e' → Le G G' → (∀ j, j ∉ is → σ'[j]? = σ[j]?) → σ'.length = σ.length → Rel K P σ' H' G' e' T → Q σ' H'
structure VG (X : Cx) (tg : Expr) (is : List Nat) (g : VTG) : Prop where
  run : PG X tg (tG X.K is g)
structure VGs (X : Cx) (tgs : List Expr) (is : List Nat) (g : VTGs) : Prop where
  run : PGs X tgs (tGs X.K is g)
theorem PG.imp {X : Cx} {ex : Expr} {te te' : TG} (h : PG X ex te) (f : ∀ v σ H Q, te' v σ H Q → te v σ H Q) : PG X ex te' := ⟨fun pins s σ H v u Q I r q => h.run pins s σ H v u Q I r (f v σ H Q q)⟩
theorem PGs.imp {X : Cx} {ex : List Expr} {te te' : TGs} (h : PGs X ex te) (f : ∀ v σ H Q, te' v σ H Q → te v σ H Q) : PGs X ex te' := ⟨fun pins s σ H v u Q I r q => h.run pins s σ H v u Q I r (f v σ H Q q)⟩
def vgName (i : Nat) : VTG := fun d e Q => free e i ∧ Q (e.set i (.vr false 0 d))
def vgNil : VTGs := fun ds e Q => match ds with
  | [] => Q e
  | _ => False
def vgCons (g : VTG) (gs : VTGs) : VTGs := fun ds e Q => match ds with
  | d :: ds => g d e fun e' => gs ds e' Q
  | [] => False
def vgTup (n : Nat) (gs : VTGs) : VTG := fun d e Q => match d with
  | .tuple ds => ds.length = n ∧ gs ds e Q
  | _ => False
/-- target = e, e frozen -/
def vAsg (t : VTE) (g : VTG) : VTS := fun D e => t e (fun d e' => g d e' D.nx) D.ex
section
variable {X : Cx} {W : WX} {kr : Nat} {ex tg : Expr} {es : List Expr} {t : VTE} {g : VTG} {gs : VTGs} {is js : List Nat} {pos : Pos}
theorem vg_name {i : Nat} {x : Str} (hN : X.N.Nodup) (hi : X.N[i]? = some x) (hx : Loc X.env.scope x) (hf : X.fn x = true ∨ X.env.scope.names.lookup x = some .local := by first | exact .inl rfl | exact .inr rfl | assumption) : VG X (.Name x pos) [i] (vgName i) :=
  ⟨PG.imp (pg_name hN hi hx hf) fun v σ H Q ⟨P, G, e, T, d, Qc, r, ⟨hfr, q⟩, c⟩ => c _ _ H G q (Le.refl _) (fun j hj => by
    rw [List.getElem?_set_ne (fun z => hj (by simp [z]))]) (by simp) (r.store hfr)⟩
theorem vgs_nil : VGs X [] [] vgNil := ⟨PGs.imp pgs_nil fun vs σ H Q ⟨P, G, e, T, ds, Qc, rl, r, q, c⟩ => by
  cases ds with
  | nil => rw [RepL] at rl; exact ⟨rl, c e σ H G q (Le.refl _) (fun _ _ => rfl) rfl r⟩
  | cons d ds => exact q.elim⟩
theorem vgs_cons (h : VG X ex is g) (hs : VGs X es js gs) (hh : (assignEach (ex :: es) X.env).map (·.2) = assign ex X.env :: (assignEach es X.env).map (·.2) := by rfl) : VGs X (ex :: es) (is ++ js) (vgCons g gs) :=
  ⟨PGs.imp (pgs_cons h.run hs.run hh) fun vs σ H Q ⟨P, G, e, T, ds, Qc, rl, r, q, c⟩ => by
    cases ds with
    | nil => exact q.elim
    | cons d ds =>
      rw [RepL] at rl
      obtain ⟨v, rr, ev, h1, h2⟩ := rl
      refine ⟨v, rr, ev, P, G, e, T, d, _, r.add h1, q, fun e' σ' H' G' q' l hs1 hl1 r' => ⟨P, G', e', T, ds, _, h2.mono l, r', q', fun e2 σ2 H2 G2 q2 l2 hs2 hl2 r2 => c e2 σ2 H2 G2 q2 (l.trans l2) (fun j hj => ?_) (hl2.trans hl1) r2⟩⟩
      rw [List.mem_append, not_or] at hj
      exact (hs2 j hj.2).trans (hs1 j hj.1)⟩
theorem vg_tup {k n : Nat} (hc : X.calm = true) (h : VGs X es is gs) (hn : (assignEach es X.env).length = n := by rfl) (hst : (assignEach es X.env).findIdx? (·.1) = none := by rfl) : VG X (.Tuple es k pos) is (vgTup n gs) :=
  ⟨PG.imp (pg_tup hc h.run hn hst) fun v σ H Q ⟨P, G, e, T, d, Qc, r, q, c⟩ => by
    cases d with
    | tuple ds =>
      have rp := r.rep
      rw [Rep] at rp
      obtain ⟨a, vs, e1, h1, h2⟩ := rp
      exact ⟨a, vs, e1, SqT.of (r.le.tup h1), by rw [← h2.length]; exact q.1, P, G, e, T, ds, Qc, h2, r.tail, q.2, c⟩
    | _ => exact q.elim⟩
theorem vs_asg (he : VE X W 0 ex t) (hg : VG X tg is g) (hs : swapsWithSole [tg] ex pos.line X.env = pure false := by rfl) (hw : swappedStores [tg] ex X.env = pure none := by rfl)
    (h1 : (assignEach [tg] X.env).map (·.2) = [assign tg X.env] := by rfl) : VS X W kr (.Assign [tg] ex pos) (vAsg t g) :=
  ⟨PS.imp (ps_asg he.run hg.run hs hw h1) fun D σ H ⟨P, G, e, T, Dc, r, q, o⟩ => ⟨P, G, e, T, _, _, r, q, fun d e' v H' G' q' l r' => ⟨P, G', e', T, d, _, r', q', fun e2 σ2 H2 G2 q2 l2 _ _ r2 => o.nx e2 σ2 H2 G2 q2 (l.trans l2) r2⟩, o.x⟩⟩
end

/-! ### what is walked -/
structure VWalk (K : PySem.W.Frag) (J : It) (xs : List D) (vs : List V) (items : List D) : Prop where
  goes : ∀ i H G, i < items.length → Le G H → Rep1L K H G xs vs → J.go i H
  stops : ∀ H G, Le G H → Rep1L K H G xs vs → J.stop items.length H
  yields : ∀ i d H G R v H', items[i]? = some d → RelR K H G R → Rep1L K H G xs vs → J.yld i H v H' → ∃ G', Le G G' ∧ RelR K H' G' (.val 0 d v :: R)
abbrev SRC := List D → (List D → Prop) → Prop
/-- frozen operands alone -/
def exs (n : Nat) : List Om := List.replicate n .ex
def tI (K : PySem.W.Frag) (W : WX) (ts : VTA) (src : SRC) : TI := fun σ H R => ∃ (P : Pins) (G : Hp) (e : Env) (T : List Root) (Qc : List D → List D → Env → Prop) (Xc : XQ), Rel K P σ H G e T ∧
  ts e (fun ds e' => src ds fun items => Qc ds items e') Xc ∧
  (∀ ds items e' J H' G' vs, Qc ds items e' → Le G G' → RepL K G' ds vs → Rel K P σ H' G' e' T → VWalk K J ds vs items → R J H') ∧ XOk K W P T σ G Xc
structure VI (X : Cx) (W : WX) (tg iter : Expr) (ts : VTA) (src : SRC) : Prop where
  run : PI X tg iter (tI X.K W ts src)
theorem tmps_ex {K : PySem.W.Frag} {P : Pins} {σ σ' : St} {H G : Hp} {e : Env} {T : List Root} : ∀ {n : Nat} {ds : List D} {vs : List V}, Opds σ (exs n) ds vs → Rel K P σ' H G e (tmps (exs n) ds vs ++ T) → RepL K G ds vs
  | 0, _, _, .nil, _ => RepL.nil
  | n + 1, _, _, .ex (ds := ds) (vs := vs) (d := d) (v := v) o, r => by
    have r : Rel K P σ' H G e (.val 0 d v :: (tmps (exs n) ds vs ++ T)) := r
    exact RepL.cons r.rep (tmps_ex (n := n) o r.tail)
theorem RepL.one1 {K : PySem.W.Frag} {H G : Hp} (l : Le G H) : ∀ {ds : List D} {vs : List V}, RepL K G ds vs → Rep1L K H G ds vs
  | [], _, h => by rw [RepL] at h; subst h; exact .nil
  | d :: ds, vs, h => by
    rw [RepL] at h
    obtain ⟨v, r, rfl, h1, h2⟩ := h
    exact .cons (h1.one l) (RepL.one1 l h2)
theorem PI.imp {X : Cx} {tg ex : Expr} {te te' : TI} (h : PI X tg ex te) (f : ∀ σ H Q, te' σ H Q → te σ H Q) : PI X tg ex te' := ⟨fun pins s σ H Q I q => h.run pins s σ H Q I (f σ H Q q)⟩
/-- the operands, then the source by its data -/
theorem tI_tA {K : PySem.W.Frag} {W : WX} {n : Nat} {ts : VTA} {src : SRC} {σ : St} {H : Hp} {R : It → Hp → Prop} (h : tI K W ts src σ H R) :
    tA K W (exs n) ts σ H fun vs H1 => ∃ (G : Hp) (xs : List D) (q : List D → Prop), Le G H1 ∧ Rep1L K H1 G xs vs ∧ src xs q ∧ ∀ items J, q items → VWalk K J xs vs items → R J H1 := by
  obtain ⟨P, G, e, T, Qc, Xc, r, q, c, x⟩ := h
  refine ⟨P, G, e, T, _, Xc, r, q, fun ds e' vs H' G' hq l o r' => ?_, x⟩
  have rp := tmps_ex o r'
  exact ⟨G', ds, _, r'.le, rp.one1 r'.le, hq, fun items J hi w => c ds items e' J H' G' vs hi l rp r'.right w⟩
def srcL : SRC
  | [.list ds], f => f ds
  | _, _ => False
def srcT : SRC
  | [.tuple ds], f => f ds
  | _, _ => False
def signs (x : Str) : List D := x.cps.toList.map fun c => .str ⟨#[c]⟩
def srcS : SRC
  | [.str x], f => f (signs x)
  | _, _ => False
def upto (a : Int) (n : Nat) : List D := (List.range n).map fun i => .int (a + (i : Nat))
def srcR1 : SRC
  | [.int n], f => (-(2 ^ 62) ≤ n ∧ n < 2 ^ 62) ∧ f (upto 0 n.toNat)
  | _, _ => False
def srcR2 : SRC
  | [.int a, .int b], f => (-(2 ^ 62) ≤ a ∧ a < 2 ^ 62 ∧ -(2 ^ 62) ≤ b ∧ b < 2 ^ 62) ∧ f (upto a (b - a).toNat)
  | _, _ => False
def downto (a : Int) (n : Nat) : List D := (List.range n).map fun i => .int (a - (i : Nat))
/-- range(a, b, -1) -/
def srcR3 : SRC
  | [.int a, .int b, .int c], f => c = -1 ∧ (-(2 ^ 62) ≤ a ∧ a < 2 ^ 62 ∧ -(2 ^ 62) ≤ b ∧ b < 2 ^ 62) ∧ f (downto a (a - b).toNat)
  | _, _ => False
def enums (ds : List D) : List D := ds.mapIdx fun i d => .tuple [.int (i : Nat), d]
def srcEL : SRC
  | [.list ds], f => f (enums ds)
  | _, _ => False
def zips : List D → List D → List D
  | a :: as, b :: bs => .tuple [a, b] :: zips as bs
  | _, _ => []
def srcZL : SRC
  | [.list as, .list bs], f => f (zips as bs)
  | _, _ => False
section
variable {K : PySem.W.Frag} {H G : Hp} {R : List Root}
theorem rep1L_1 {d : D} {vs : List V} (h : Rep1L K H G [d] vs) : ∃ v, vs = [v] ∧ Rep1 K H G d v := by
  cases h with
  | cons h t => cases t; exact ⟨_, rfl, h⟩
theorem rep1L_2 {d d' : D} {vs : List V} (h : Rep1L K H G [d, d'] vs) : ∃ v v', vs = [v, v'] ∧ Rep1 K H G d v ∧ Rep1 K H G d' v' := by
  cases h with
  | cons h t => obtain ⟨v, rfl, h2⟩ := rep1L_1 t; exact ⟨_, _, rfl, h, h2⟩
theorem rep1L_3 {d d' d2 : D} {vs : List V} (h : Rep1L K H G [d, d', d2] vs) : ∃ v v' v2, vs = [v, v', v2] ∧ Rep1 K H G d v ∧ Rep1 K H G d' v' ∧ Rep1 K H G d2 v2 := by
  cases h with
  | cons h t => obtain ⟨v, v', rfl, h2, h3⟩ := rep1L_2 t; exact ⟨_, _, _, rfl, h, h2, h3⟩
theorem rep1_str {x : Str} {v : V} : Rep1 K H G (.str x) v ↔ v = .str x := by show Rep K G (.str x) v ↔ _; rw [Rep]
theorem rep1_int {x : Int} {v : V} : Rep1 K H G (.int x) v ↔ v = .int x := by show Rep K G (.int x) v ↔ _; rw [Rep]
theorem rep1_bool {x : Bool} {v : V} : Rep1 K H G (.bool x) v ↔ v = .bl x := by show Rep K G (.bool x) v ↔ _; rw [Rep]
theorem rep1_none {v : V} : Rep1 K H G .none v ↔ v = .non := by show Rep K G .none v ↔ _; rw [Rep]
theorem rep1_list {ds : List D} {v : V} : Rep1 K H G (.list ds) v ↔ ∃ a vs, v = .ref a ∧ SqL K H a vs ∧ RepL K G ds vs := Iff.rfl
theorem rep1_tup {ds : List D} {v : V} : Rep1 K H G (.tuple ds) v ↔ ∃ a vs, v = .ref a ∧ G a = some (.tup vs) ∧ RepL K G ds vs := by show Rep K G (.tuple ds) v ↔ _; rw [Rep]
theorem rep_str {x : Str} {v : V} : Rep K G (.str x) v ↔ v = .str x := by rw [Rep]
theorem rep_int {x : Int} {v : V} : Rep K G (.int x) v ↔ v = .int x := by rw [Rep]
theorem rep_bool {x : Bool} {v : V} : Rep K G (.bool x) v ↔ v = .bl x := by rw [Rep]
theorem rep_none {v : V} : Rep K G .none v ↔ v = .non := by rw [Rep]
/-- a new pair -/
theorem pair_ok {p : Addr} {x y : V} {d1 d2 : D} (r : RelR K H G R) (hp : H p = none) (h1 : Rep K G d1 x) (h2 : Rep K G d2 y) : ∃ G', Le G G' ∧ RelR K (upd H p (.tup [x, y])) G' (.val 0 (.tuple [d1, d2]) (.ref p) :: R) := by
  obtain ⟨G', l, r2, e⟩ := r.newT (vs := [x, y]) hp
  refine ⟨G', l, r2.add ?_⟩
  rw [Rep]
  exact ⟨p, _, rfl, e, .cons (h1.mono l) (.one (h2.mono l))⟩
/-- a list is read one way -/
theorem sqL_len {a : Addr} {vs : List V} {ds : List D} (h : RepL K G ds vs) {i : Nat} {d : D} (e : ds[i]? = some d) {v : V} (ev : vs[i]? = some v) : Rep K G d v := by
  obtain ⟨u, h1, h2⟩ := h.get e
  rw [ev] at h1; cases h1; exact h2
theorem vw_list {ds : List D} {a : Addr} : VWalk K (Itl K a) [.list ds] [.ref a] ds where
  goes := fun i H G hi l r => by
    obtain ⟨v, e, b, vs, e2, h1, h2⟩ := rep1L_1 r
    cases e; cases e2
    have hl := h2.length
    exact ⟨vs, vs[i]'(by omega), h1, List.getElem?_eq_getElem (by omega)⟩
  stops := fun H G l r => by
    obtain ⟨v, e, b, vs, e2, h1, h2⟩ := rep1L_1 r
    cases e; cases e2
    exact ⟨vs, h1, by rw [← h2.length]; exact Nat.le_refl _⟩
  yields := fun i d H G R v H' hd rr r y => by
    obtain ⟨v', e, b, vs, e2, h1, h2⟩ := rep1L_1 r
    cases e; cases e2
    obtain ⟨rfl, y⟩ := y
    exact ⟨G, Le.refl _, rr.add (sqL_len (a := a) h2 hd (y vs h1))⟩
theorem vw_tup {ds : List D} {a : Addr} : VWalk K (Itt K a) [.tuple ds] [.ref a] ds where
  goes := fun i H G hi l r => by
    obtain ⟨v, e, r⟩ := rep1L_1 r
    obtain ⟨b, vs, e2, h1, h2⟩ := rep1_tup.mp r
    cases e; cases e2
    have hl := h2.length
    exact ⟨vs, vs[i]'(by omega), SqT.of (l.tup h1), List.getElem?_eq_getElem (by omega)⟩
  stops := fun H G l r => by
    obtain ⟨v, e, r⟩ := rep1L_1 r
    obtain ⟨b, vs, e2, h1, h2⟩ := rep1_tup.mp r
    cases e; cases e2
    exact ⟨vs, SqT.of (l.tup h1), by rw [← h2.length]; exact Nat.le_refl _⟩
  yields := fun i d H G R v H' hd rr r y => by
    obtain ⟨v', e, r⟩ := rep1L_1 r
    obtain ⟨b, vs, e2, h1, h2⟩ := rep1_tup.mp r
    cases e; cases e2
    obtain ⟨rfl, y⟩ := y
    exact ⟨G, Le.refl _, rr.add (sqL_len (a := a) h2 hd (y vs (SqT.of (rr.le.tup h1))))⟩
theorem vw_str {x : Str} {vs : List V} : VWalk K (Its x) [.str x] vs (signs x) where
  goes := fun i H G hi l r => by
    show i < x.cps.size
    simpa [signs] using hi
  stops := fun H G l r => by
    show x.cps.size ≤ (signs x).length
    simp [signs]
  yields := fun i d H G R v H' hd rr r y => by
    obtain ⟨rfl, c, hc, rfl⟩ := y
    refine ⟨G, Le.refl _, rr.add ?_⟩
    unfold signs at hd
    rw [List.getElem?_map, Array.getElem?_toList, hc] at hd
    cases hd
    rw [Rep]
theorem vw_range {a : Int} {n : Nat} {xs : List D} {vs : List V} : VWalk K (Itr a n) xs vs (upto a n) where
  goes := fun i H G hi l r => by
    show i < n
    simpa [upto] using hi
  stops := fun H G l r => by
    show n ≤ (upto a n).length
    simp [upto]
  yields := fun i d H G R v H' hd rr r y => by
    obtain ⟨rfl, rfl⟩ := y
    refine ⟨G, Le.refl _, rr.add ?_⟩
    unfold upto at hd
    rw [List.getElem?_map] at hd
    obtain ⟨j, hj, e⟩ := Option.map_eq_some_iff.mp hd
    have : j = i := by
      obtain ⟨h1, h2⟩ := List.getElem?_eq_some_iff.mp hj
      simp at h2; omega
    subst this
    subst e
    rw [Rep]
theorem vw_down {a : Int} {n : Nat} {xs : List D} {vs : List V} : VWalk K (Itc a (-1) n) xs vs (downto a n) where
  goes := fun i H G hi l r => by
    show i < n
    simpa [downto] using hi
  stops := fun H G l r => by
    show n ≤ (downto a n).length
    simp [downto]
  yields := fun i d H G R v H' hd rr r y => by
    obtain ⟨rfl, rfl⟩ := y
    refine ⟨G, Le.refl _, rr.add ?_⟩
    unfold downto at hd
    rw [List.getElem?_map] at hd
    obtain ⟨j, hj, e⟩ := Option.map_eq_some_iff.mp hd
    have : j = i := by
      obtain ⟨h1, h2⟩ := List.getElem?_eq_some_iff.mp hj
      simp at h2; omega
    subst this
    subst e
    rw [Rep, show a + (j : Int) * -1 = a - (j : Int) by omega]
theorem vw_enum {ds : List D} {a : Addr} : VWalk K (Ite K a) [.list ds] [.ref a] (enums ds) where
  goes := fun i H G hi l r => by
    obtain ⟨v, e, b, vs, e2, h1, h2⟩ := rep1L_1 r
    cases e; cases e2
    have hl := h2.length
    have hi : i < ds.length := by simpa [enums] using hi
    exact ⟨vs, vs[i]'(by omega), h1, List.getElem?_eq_getElem (by omega)⟩
  stops := fun H G l r => by
    obtain ⟨v, e, b, vs, e2, h1, h2⟩ := rep1L_1 r
    cases e; cases e2
    exact ⟨vs, h1, by rw [← h2.length]; simp [enums]⟩
  yields := fun i d H G R v H' hd rr r y => by
    obtain ⟨v', e, b, vs, e2, h1, h2⟩ := rep1L_1 r
    cases e; cases e2
    obtain ⟨T, x, rfl, hT, rfl, y⟩ := y
    unfold enums at hd
    rw [List.getElem?_mapIdx] at hd
    obtain ⟨d0, hj, e⟩ := Option.map_eq_some_iff.mp hd
    subst e
    exact pair_ok rr hT (by rw [Rep]) (sqL_len (a := a) h2 hj (y vs h1))
theorem zips_get : ∀ {as bs : List D} {i : Nat} {d : D}, (zips as bs)[i]? = some d → ∃ a b, as[i]? = some a ∧ bs[i]? = some b ∧ d = .tuple [a, b]
  | a :: as, b :: bs, 0, d, h => by simp [zips] at h; exact ⟨a, b, rfl, rfl, h.symm⟩
  | a :: as, b :: bs, i + 1, d, h => by
    obtain ⟨x, y, h1, h2, h3⟩ := zips_get (as := as) (bs := bs) (i := i) (by simpa [zips] using h)
    exact ⟨x, y, by simpa using h1, by simpa using h2, h3⟩
  | [], _, _, d, h => by simp [zips] at h
  | _ :: _, [], _, d, h => by simp [zips] at h
theorem zips_length : ∀ (as bs : List D), (zips as bs).length = min as.length bs.length
  | a :: as, b :: bs => by simp [zips, zips_length as bs]
  | [], _ => by simp [zips]
  | _ :: _, [] => by simp [zips]
theorem vw_zip {as bs : List D} {a b : Addr} : VWalk K (Itz K a b) [.list as, .list bs] [.ref a, .ref b] (zips as bs) where
  goes := fun i H G hi l r => by
    obtain ⟨v, v', e, ⟨p, vs, e2, h1, h2⟩, ⟨q, us, e3, h3, h4⟩⟩ := rep1L_2 r
    cases e; cases e2; cases e3
    have hl := h2.length
    have hl2 := h4.length
    rw [zips_length] at hi
    exact ⟨vs, us, vs[i]'(by omega), us[i]'(by omega), h1, h3, List.getElem?_eq_getElem (by omega), List.getElem?_eq_getElem (by omega)⟩
  stops := fun H G l r => by
    obtain ⟨v, v', e, ⟨p, vs, e2, h1, h2⟩, ⟨q, us, e3, h3, h4⟩⟩ := rep1L_2 r
    cases e; cases e2; cases e3
    refine ⟨vs, us, h1, h3, ?_⟩
    rw [zips_length, ← h2.length, ← h4.length]
    omega
  yields := fun i d H G R v H' hd rr r y => by
    obtain ⟨v, v', e, ⟨p, vs, e2, h1, h2⟩, ⟨q, us, e3, h3, h4⟩⟩ := rep1L_2 r
    cases e; cases e2; cases e3
    obtain ⟨T, x, z, rfl, hT, rfl, y1, y2⟩ := y
    obtain ⟨d1, d2, k1, k2, rfl⟩ := zips_get hd
    exact pair_ok rr hT (sqL_len (a := a) h2 k1 (y1 vs h1)) (sqL_len (a := a) h4 k2 (y2 us h3))
end
section
variable {X : Cx} {W : WX} {l e2 tg : Expr} {o o' : Om} {t t' : VTE} {os : List Om} {ts : VTA} {p pos tpos : Pos}
theorem vi_list (h : VE X W 0 l t) : VI X W tg l (vCons t vNil) srcL :=
  ⟨PI.imp (pi_list h.run) fun σ H R q => tO.mono (o := .ex) (tA_cons (o := .ex) (os := exs 0) (fun i z => by cases z) (tI_tA (n := 1) q)) fun v H1 q => by
    obtain ⟨G, xs, q2, l, rp, hs, c⟩ := tA_nil q
    unfold srcL at hs
    split at hs
    · rename_i ds
      obtain ⟨v', e, b, vs, e2, h1, h2⟩ := rep1L_1 rp
      cases e
      exact ⟨b, e2, ⟨vs, h1⟩, c ds _ hs (by rw [e2]; exact vw_list)⟩
    · exact hs.elim⟩
theorem vi_tup (h : VE X W 0 l t) : VI X W tg l (vCons t vNil) srcT :=
  ⟨PI.imp (pi_tup h.run) fun σ H R q => tO.mono (o := .ex) (tA_cons (o := .ex) (os := exs 0) (fun i z => by cases z) (tI_tA (n := 1) q)) fun v H1 q => by
    obtain ⟨G, xs, q2, l, rp, hs, c⟩ := tA_nil q
    unfold srcT at hs
    split at hs
    · rename_i ds
      obtain ⟨v', e, rp⟩ := rep1L_1 rp
      obtain ⟨b, vs, e2, h1, h2⟩ := rep1_tup.mp rp
      cases e
      exact ⟨b, e2, ⟨vs, SqT.of (l.tup h1)⟩, c ds _ hs (by rw [e2]; exact vw_tup)⟩
    · exact hs.elim⟩
theorem vi_str (h : VE X W 0 l t) : VI X W tg l (vCons t vNil) srcS :=
  ⟨PI.imp (pi_str h.run) fun σ H R q => tO.mono (o := .ex) (tA_cons (o := .ex) (os := exs 0) (fun i z => by cases z) (tI_tA (n := 1) q)) fun v H1 q => by
    obtain ⟨G, xs, q2, l, rp, hs, c⟩ := tA_nil q
    unfold srcS at hs
    split at hs
    · rename_i x
      obtain ⟨v', e, rp⟩ := rep1L_1 rp
      cases e
      exact ⟨x, rep1_str.mp rp, c _ _ hs vw_str⟩
    · exact hs.elim⟩
theorem vi_range1 (hg : Gl X "range") (hm : X.mg "range" = none) (ha : VA X W [l] (exs 1) ts) (hs : starEach [l] X.env = [(false, eval l X.env)] := by rfl) : VI X W tg (.Call (.Name "range" p) [l] [] pos) ts srcR1 :=
  ⟨PI.imp (pi_range1 hg hm ha.run hs) fun σ H R q => by
    obtain ⟨P, G, e, T, Qc, Xc, r, q, c, x⟩ := tI_tA (n := 1) q
    refine ⟨P, G, e, T, Qc, Xc, r, q, fun ds e' vs H' G' h1 h2 h3 h4 => ?_, x⟩
    obtain ⟨G, xs, q2, l, rp, hs, c⟩ := c ds e' vs H' G' h1 h2 h3 h4
    unfold srcR1 at hs
    split at hs
    · rename_i n
      obtain ⟨v', e, rp⟩ := rep1L_1 rp
      obtain rfl := rep1_int.mp rp
      exact ⟨n, e, hs.1.1, hs.1.2, c _ _ hs.2 vw_range⟩
    · exact hs.elim⟩
theorem vi_range2 {l2 : Expr} (hg : Gl X "range") (hm : X.mg "range" = none) (ha : VA X W [l, l2] (exs 2) ts) (hs : starEach [l, l2] X.env = [(false, eval l X.env), (false, eval l2 X.env)] := by rfl) (hs2 : starEach [l2] X.env = [(false, eval l2 X.env)] := by rfl) :
    VI X W tg (.Call (.Name "range" p) [l, l2] [] pos) ts srcR2 :=
  ⟨PI.imp (pi_range2 hg hm ha.run hs hs2) fun σ H R q => by
    obtain ⟨P, G, e, T, Qc, Xc, r, q, c, x⟩ := tI_tA (n := 2) q
    refine ⟨P, G, e, T, Qc, Xc, r, q, fun ds e' vs H' G' h1 h2 h3 h4 => ?_, x⟩
    obtain ⟨G, xs, q2, l, rp, hs, c⟩ := c ds e' vs H' G' h1 h2 h3 h4
    unfold srcR2 at hs
    split at hs
    · rename_i n m
      obtain ⟨v, v', e, rp, rp'⟩ := rep1L_2 rp
      obtain rfl := rep1_int.mp rp
      obtain rfl := rep1_int.mp rp'
      exact ⟨n, m, e, hs.1, c _ _ hs.2 vw_range⟩
    · exact hs.elim⟩
theorem vi_range3 {l2 l3 : Expr} (hg : Gl X "range") (hm : X.mg "range" = none) (ha : VA X W [l, l2, l3] (exs 3) ts) (hs : starEach [l, l2, l3] X.env = (false, eval l X.env) :: starEach [l2, l3] X.env := by rfl) (hpl : (backTo pos (starEach [l2, l3] X.env)).any (·.1) = false := by rfl) :
    VI X W tg (.Call (.Name "range" p) [l, l2, l3] [] pos) ts srcR3 :=
  ⟨PI.imp (pi_range3 hg hm ha.run hs hpl) fun σ H R q => by
    obtain ⟨P, G, e, T, Qc, Xc, r, q, c, x⟩ := tI_tA (n := 3) q
    refine ⟨P, G, e, T, Qc, Xc, r, q, fun ds e' vs H' G' h1 h2 h3 h4 => ?_, x⟩
    obtain ⟨G, xs, q2, l, rp, hs, c⟩ := c ds e' vs H' G' h1 h2 h3 h4
    unfold srcR3 at hs
    split at hs
    · rename_i n m k
      obtain ⟨v, v', v2, e, rp, rp', rp2⟩ := rep1L_3 rp
      obtain rfl := rep1_int.mp rp
      obtain rfl := rep1_int.mp rp'
      obtain rfl := rep1_int.mp rp2
      obtain ⟨rfl, ⟨b1, b2, b3, b4⟩, hq⟩ := hs
      exact ⟨n, m, -1, _, e, RgC.neg b1 b2 b3 b4, c _ _ hq vw_down⟩
    · exact hs.elim⟩
theorem vi_enum {elts : List Expr} {kk : Nat} (hg : Gl X "enumerate") (hm : X.mg "enumerate" = none) (ha : VA X W [l] (exs 1) ts) (hs : starEach [l] X.env = [(false, eval l X.env)] := by rfl) : VI X W (.Tuple elts kk tpos) (.Call (.Name "enumerate" p) [l] [] pos) ts srcEL :=
  ⟨PI.imp (pi_enum hg hm ha.run hs) fun σ H R q => by
    obtain ⟨P, G, e, T, Qc, Xc, r, q, c, x⟩ := tI_tA (n := 1) q
    refine ⟨P, G, e, T, Qc, Xc, r, q, fun ds e' vs H' G' h1 h2 h3 h4 => ?_, x⟩
    obtain ⟨G, xs, q2, l, rp, hs, c⟩ := c ds e' vs H' G' h1 h2 h3 h4
    unfold srcEL at hs
    split at hs
    · rename_i ds
      obtain ⟨v', e, b, us, e2, h1, h2⟩ := rep1L_1 rp
      subst e2
      exact ⟨b, us, e, h1, c _ _ hs (by rw [e]; exact vw_enum)⟩
    · exact hs.elim⟩
theorem vi_zip {elts : List Expr} {kk : Nat} (hg : Gl X "zip") (hm : X.mg "zip" = none) (ha : VA X W [l, e2] (exs 2) ts) (hs : starEach [l, e2] X.env = (false, eval l X.env) :: starEach [e2] X.env := by rfl) (hpl : (backTo pos (starEach [e2] X.env)).any (·.1) = false := by rfl) :
    VI X W (.Tuple elts kk tpos) (.Call (.Name "zip" p) [l, e2] [] pos) ts srcZL :=
  ⟨PI.imp (pi_zip hg hm ha.run hs hpl) fun σ H R q => by
    obtain ⟨P, G, e, T, Qc, Xc, r, q, c, x⟩ := tI_tA (n := 2) q
    refine ⟨P, G, e, T, Qc, Xc, r, q, fun ds e' vs H' G' h1 h2 h3 h4 => ?_, x⟩
    obtain ⟨G, xs, q2, l, rp, hs, c⟩ := c ds e' vs H' G' h1 h2 h3 h4
    unfold srcZL at hs
    split at hs
    · rename_i as bs
      obtain ⟨v, v', e, ⟨b, us, e2, h1, h2⟩, ⟨b', us', e2', h1', h2'⟩⟩ := rep1L_2 rp
      subst e2 e2'
      exact ⟨b, b', us, us', e, h1, h1', c _ _ hs (by rw [e]; exact vw_zip)⟩
    · exact hs.elim⟩
end

/-! ### for, while -/
/-- Inv by the turn -/
def vFor (ts : VTA) (src : SRC) (g : VTG) (b : VTS) : VTS := fun D e => ts e (fun ds e' => src ds fun items => ∃ Inv : Nat → Env → Prop, Inv 0 e' ∧
  (∀ i x e, items[i]? = some x → Inv i e → g x e fun e2 => b { D with nx := Inv (i + 1), ct := Inv (i + 1), bk := D.nx } e2) ∧ ∀ e, Inv items.length e → D.nx e) D.ex
def vWhile (c : VTT) (b : VTS) : VTS := fun D e => ∃ Inv : Nat → Env → Prop, (∃ m, Inv m e) ∧ ∀ m e, Inv m e → c e (fun r e1 => if r = true then b { D with nx := fun e => ∃ m', m' < m ∧ Inv m' e, ct := fun e => ∃ m', m' < m ∧ Inv m' e, bk := D.nx } e1 else D.nx e1) D.ex
section
variable {X : Cx} {W : WX} {kr : Nat} {tg iter c : Expr} {ts : VTA} {src : SRC} {g : VTG} {is : List Nat} {b : VTS} {tc : VTT} {body : List Stmt} {pos : Pos}
theorem vs_for (hp : PassesOwn (model X.prog X.w) X.A X.env X.xe) (hc : X.calm = true) (hi : VI X W tg iter ts src) (hg : VG X tg is g) (hb : VSs X W kr body b)
    (hs : ∀ x, foldedSetIterable iter X.env x = pure x := by intro _; rfl) : VS X W kr (.For tg iter body [] pos) (vFor ts src g b) :=
  ⟨PS.imp (ps_for hp hc hi.run hg.run hb.run hs) fun En σ H ⟨P, G, e, T, Dc, r, q, o⟩ => by
    refine ⟨P, G, e, T, fun ds items e' => ∃ Inv : Nat → Env → Prop, Inv 0 e' ∧
      (∀ i x e, items[i]? = some x → Inv i e → g x e fun e2 => b { Dc with nx := Inv (i + 1), ct := Inv (i + 1), bk := Dc.nx } e2) ∧ ∀ e, Inv items.length e → Dc.nx e, Dc.ex, r, q, ?_, o.x⟩
    rintro ds items e1 J H1 G1 vs ⟨Inv, i0, it, iz⟩ l1 od r1 w
    refine ⟨fun i m σ' H' => m = items.length - i ∧ i ≤ items.length ∧ ∃ G' e', Le G1 G' ∧ Rel X.K P σ' H' G' e' T ∧ Inv i e', ⟨items.length, by simp, Nat.zero_le _, G1, e1, Le.refl _, r1, i0⟩, ?_⟩
    rintro i m σ2 H2 ⟨rfl, hi, G2, e2, l2, r2, inv⟩
    have rp : Rep1L X.K H2 G2 ds vs := (od.mono l2).one1 r2.le
    by_cases hlt : i < items.length
    · refine .inr ⟨w.goes i H2 G2 hlt r2.le rp, fun σ' H' => ∃ G' e', Le G1 G' ∧ Rel X.K P σ' H' G' e' T ∧ Inv (i + 1) e', fun σ' H' ⟨G', e', z⟩ => ⟨items.length - (i + 1), by omega, rfl, hlt, G', e', z⟩, fun v H3 y => ?_⟩
      have hd : items[i]? = some items[i] := List.getElem?_eq_getElem hlt
      obtain ⟨G3, l3, r3⟩ := r2.temps' (H' := H3) (T' := .val 0 items[i] v :: T) fun S z => w.yields i _ H2 G2 _ v H3 hd z rp y
      refine ⟨P, G3, e2, T, _, _, r3, it i _ e2 hd inv, fun e4 σ4 H4 G4 q4 l4 _ _ r4 => ?_⟩
      have l14 : Le G1 G4 := l2.trans (l3.trans l4)
      have o4 := o.mono (l1.trans l14)
      exact ⟨P, G4, e4, T, _, r4, q4, fun e5 σ5 H5 G5 q5 l5 r5 => ⟨G5, e5, l14.trans l5, r5, q5⟩, o4.rt, o4.nx, fun e5 σ5 H5 G5 q5 l5 r5 => ⟨G5, e5, l14.trans l5, r5, q5⟩, o4.ex⟩
    · have e0 : i = items.length := by omega
      subst e0
      exact .inl ⟨w.stops H2 G2 r2.le rp, o.nx e2 σ2 H2 G2 (iz e2 inv) (l1.trans l2) r2⟩⟩
theorem vs_while (hp : PassesOwn (model X.prog X.w) X.A X.env X.xe) (hc : VT X W c tc) (hb : VSs X W kr body b) : VS X W kr (.While c body [] pos) (vWhile tc b) :=
  ⟨PS.imp (ps_while hp hc.run hb.run) fun En σ H ⟨P, G, e, T, Dc, r, q, o⟩ => by
    obtain ⟨Inv, ⟨m0, i0⟩, it⟩ := q
    refine ⟨fun m σ' H' => ∃ G' e', Le G G' ∧ Rel X.K P σ' H' G' e' T ∧ Inv m e', ⟨m0, G, e, Le.refl _, r, i0⟩, ?_⟩
    rintro m σ1 H1 ⟨G1, e1, l1, r1, inv⟩
    refine ⟨P, G1, e1, T, _, _, r1, it m e1 inv, fun b2 e2 H2 G2 q2 l2 r2 => ?_, (o.mono l1).x⟩
    have o2 := o.mono (l1.trans l2)
    cases b2 with
    | true =>
      rw [if_pos rfl] at q2
      exact L2.iteT ⟨fun σ' H' => ∃ m', m' < m ∧ ∃ G' e', Le G G' ∧ Rel X.K P σ' H' G' e' T ∧ Inv m' e', fun σ' H' ⟨m', h1, z⟩ => ⟨m', h1, z⟩, P, G2, e2, T, _, r2, q2,
        fun e5 σ5 H5 G5 ⟨m', h1, q5⟩ l5 r5 => ⟨m', h1, G5, e5, (l1.trans l2).trans l5, r5, q5⟩, o2.rt, o2.nx, fun e5 σ5 H5 G5 ⟨m', h1, q5⟩ l5 r5 => ⟨m', h1, G5, e5, (l1.trans l2).trans l5, r5, q5⟩, o2.ex⟩
    | false =>
      rw [if_neg Bool.false_ne_true] at q2
      exact L2.iteF (o2.nx e2 σ1 H2 G2 q2 (Le.refl _) r2)⟩
end
end VL

/-! VL7: comprehensions; defs and their calls -/
namespace VL
open PySem L2

theorem vals_snoc {k : Nat} {d : D} {v : V} : ∀ {ds : List D} {vs : List V}, ds.length = vs.length → vals k (ds ++ [d]) (vs ++ [v]) = vals k ds vs ++ [.val k d v]
  | [], [], _ => rfl
  | [], _ :: _, e => by simp at e
  | _ :: _, [], e => by simp at e
  | d0 :: ds, v0 :: vs, e => by
    show Root.val k d0 v0 :: vals k (ds ++ [d]) (vs ++ [v]) = _
    rw [vals_snoc (by simpa using e)]
    rfl
/-- a list of ours is made longer -/
theorem RelR.push {K : PySem.W.Frag} {H G : Hp} {R : List Root} {k : Nat} {d : D} {v : V} {ds : List D} {a : Addr} (h : RelR K H G (.val k d v :: .val (k + 1) (.list ds) (.ref a) :: R)) :
    ∃ vs, H a = some (.lst vs) ∧ ds.length = vs.length ∧ RelR K (upd H a (.lst (vs ++ [v]))) G (.val (k + 1) (.list (ds ++ [d])) (.ref a) :: R) := by
  have h1 : RelR K H G (.val (k + 1) (.list ds) (.ref a) :: .val k d v :: R) := h.perm (List.Perm.swap _ _ _)
  obtain ⟨b, vs, e, hl, ha, h2⟩ := h1.openL
  cases e
  refine ⟨vs, ha, hl, RelR.closeL (vs := vs ++ [v]) ?_ (by simp [hl])⟩
  have h3 := h2.write (o' := .lst (vs ++ [v]))
  refine h3.perm (List.Perm.cons _ ?_)
  rw [vals_snoc hl]
  simp

def wipeE (e : Env) : List Nat → Env
  | [] => e
  | v :: vs => (wipeE e vs).set v .un
section
variable {K : PySem.W.Frag} {P : Pins} {σ σ' : St} {H G : Hp} {e : Env} {T : List Root} {R : List Root}
theorem Cells.cong (h : Cells P σ e R) : ∀ {σ' : St}, σ'.length = σ.length → (∀ i : Nat, e[i]? ≠ some Cell.un → σ'[i]? = σ[i]?) → Cells P σ' e R := by
  induction h with
  | nil =>
    intro σ' hl _
    have : σ' = [] := List.length_eq_zero_iff.mp hl
    subst this; exact .nil
  | un h ih =>
    intro σ' hl hi
    cases σ' with
    | nil => simp at hl
    | cons s σ' => exact .un (ih (by simpa using hl) fun i hn => by simpa using hi (i + 1) (by simpa using hn))
  | @vr P σ e R v k d h ih =>
    intro σ' hl hi
    cases σ' with
    | nil => simp at hl
    | cons s σ' =>
      have e0 : s = some v := by simpa using hi 0 (by simp)
      subst e0
      exact .vr (ih (by simpa using hl) fun i hn => by simpa using hi (i + 1) (by simpa using hn))
  | @io P σ e R v k d h ih =>
    intro σ' hl hi
    cases σ' with
    | nil => simp at hl
    | cons s σ' =>
      have e0 : s = some v := by simpa using hi 0 (by simp)
      subst e0
      exact .io (ih (by simpa using hl) fun i hn => by simpa using hi (i + 1) (by simpa using hn))
theorem Rel.cong (h : Rel K P σ H G e T) (hl : σ'.length = σ.length) (hi : ∀ i : Nat, e[i]? ≠ some Cell.un → σ'[i]? = σ[i]?) : Rel K P σ' H G e T := let ⟨R, c, r⟩ := h; ⟨R, c.cong hl hi, r⟩
theorem Cells.free_of (h : Cells P σ e R) {i : Nat} (hP : P[i]? = some none) : free e i := by
  induction h generalizing i with
  | nil => simp at hP
  | un h ih =>
    cases i with
    | zero => trivial
    | succ i => simpa [free] using ih (i := i) (by simpa using hP)
  | vr h ih =>
    cases i with
    | zero => trivial
    | succ i => simpa [free] using ih (i := i) (by simpa using hP)
  | io h ih =>
    cases i with
    | zero => simp at hP
    | succ i => simpa [free] using ih (i := i) (by simpa using hP)
theorem Cells.pin_un (h : Cells P σ e R) {i : Nat} (hi : e[i]? = some .un) : P[i]? = some none := by
  induction h generalizing i with
  | nil => simp at hi
  | un h ih =>
    cases i with
    | zero => rfl
    | succ i => simpa using ih (i := i) (by simpa using hi)
  | vr h ih =>
    cases i with
    | zero => simp at hi
    | succ i => simpa using ih (i := i) (by simpa using hi)
  | io h ih =>
    cases i with
    | zero => simp at hi
    | succ i => simpa using ih (i := i) (by simpa using hi)
theorem wipeE_len (e : Env) : ∀ vs : List Nat, (wipeE e vs).length = e.length
  | [] => rfl
  | v :: vs => by unfold wipeE; rw [List.length_set, wipeE_len e vs]
theorem wipeE_in {vs : List Nat} (e : Env) {i : Nat} (h : i ∈ vs) (hl : i < e.length) : (wipeE e vs)[i]? = some .un := by
  induction vs with
  | nil => cases h
  | cons v vs ih =>
    unfold wipeE
    by_cases hv : v = i
    · subst hv; rw [List.getElem?_set_self (by rw [wipeE_len]; exact hl)]
    · rw [List.getElem?_set_ne hv]
      exact ih ((List.mem_cons.mp h).resolve_left fun z => hv z.symm)
theorem Rel.wipe : ∀ {vs : List Nat}, Rel K P σ H G e T → (∀ i ∈ vs, P[i]? = some none) → Rel K P (L2.wipe σ vs) H G (wipeE e vs) T
  | [], h, _ => h
  | v :: vs, h, hp => by
    have h1 := Rel.wipe (vs := vs) h fun i hi => hp i (List.mem_cons_of_mem _ hi)
    have hf : free (wipeE e vs) v := by
      obtain ⟨R, c, _⟩ := h1
      exact c.free_of (hp v List.mem_cons_self)
    exact h1.forget hf none
theorem wipe_eq {σ σ' : St} {vs : List Nat} (hl : σ'.length = σ.length) (h : ∀ j, j ∉ vs → σ'[j]? = (L2.wipe σ vs)[j]?) : L2.wipe σ' vs = L2.wipe σ vs := by
  refine List.ext_getElem? fun i => ?_
  by_cases hi : i ∈ vs
  · have in_ : ∀ {τ : St} {vs : List Nat}, i ∈ vs → (L2.wipe τ vs)[i]? = if i < τ.length then some none else none := by
      intro τ vs hi
      induction vs with
      | nil => cases hi
      | cons v vs ih =>
        unfold L2.wipe
        by_cases hv : v = i
        · subst hv
          by_cases hl : v < τ.length
          · rw [List.getElem?_set_self (by rw [wipe_length]; exact hl), if_pos hl]
          · rw [List.getElem?_eq_none (by simp [wipe_length]; omega), if_neg hl]
        · rw [List.getElem?_set_ne hv]
          exact ih ((List.mem_cons.mp hi).resolve_left fun z => hv z.symm)
    rw [in_ hi, in_ hi, hl]
  · rw [wipe_out hi, h i hi]
end

/-! ### comprehensions -/
def WF : WX := fun _ _ _ _ => False
def XF : XQ := fun _ _ => False
structure VTs (X : Cx) (W : WX) (ifs : List Expr) (t : VTT) : Prop where
  run : PTs X ifs (tT X.K W t)
def vYes : VTT := fun e Q _ => Q true e
theorem PTs.imp {X : Cx} {ifs : List Expr} {te te' : TT} (h : PTs X ifs te) (f : ∀ σ H Q, te' σ H Q → te σ H Q) : PTs X ifs te' := ⟨fun pins s σ H Q I q => h.run pins s σ H Q I (f σ H Q q)⟩
theorem vts_nil {X : Cx} {W : WX} : VTs X W [] vYes := ⟨PTs.imp pts_nil fun σ H Q ⟨P, G, e, T, Qc, Xc, r, q, c, x⟩ => c true e H G q (Le.refl _) r⟩
theorem vts_one {X : Cx} {W : WX} {c : Expr} {t : VTT} (h : VT X W c t) : VTs X W [c] t := ⟨pts_one h.run⟩
def vLc (ts : VTA) (src : SRC) (vs : List Nat) (g : VTG) (tt : VTT) (te : VTE) : VTE := fun e Q X => ts e (fun ds e' => src ds fun items => items.length ≤ sizeLine ∧ (∀ j ∈ vs, e'[j]? = some .un) ∧ ∃ Inv : Nat → List D → Env → Prop, Inv 0 [] e' ∧
  (∀ i x acc e, items[i]? = some x → Inv i acc e → g x e fun e2 => tt e2 (fun b e3 => if b = true then te e3 (fun d e4 => Inv (i + 1) (acc ++ [d]) (wipeE e4 vs)) XF else Inv (i + 1) acc (wipeE e3 vs)) XF) ∧
  ∀ acc e, Inv items.length acc e → Q (.list acc) e) X
section
variable {X : Cx} {W : WX} {k kr : Nat} {elt tg iter : Expr} {ifs : List Expr} {scope : Scope} {own : List (Str × Nat)} {pos : Pos} {ts : VTA} {src : SRC} {is : List Nat} {g : VTG} {tt : VTT} {te : VTE}
/-- the reading of a comprehension, by values -/
theorem lc_ok {K : PySem.W.Frag} {vs : List Nat} (hsub : ∀ i ∈ is, i ∈ vs) {σ : St} {H : Hp} {Q : VK} (h : tV K W (k + 1) (vLc ts src vs g tt te) σ H Q) : tLc (tI K W ts src) (tG K is g) (tT K WF tt) (tV K WF k te) vs σ H Q := by
  obtain ⟨P, G, e, T, Qc, Xc, r, q, c, x⟩ := h
  refine ⟨P, G, e, T, _, Xc, r, q, ?_, x⟩
  rintro ds items e1 J H1 G1 vs0 ⟨hz, hun, Inv, i0, it, iz⟩ l1 od r1 w D0 hD
  have rD : Rel K P σ (upd H1 D0 (.lst [])) G1 e1 (.val (k + 1) (.list []) (.ref D0) :: T) := r1.temps fun S z => (z.new hD).closeL (vs := []) rfl
  have pin : ∀ j ∈ vs, P[j]? = some none := fun j hj => by
    obtain ⟨R, cc, _⟩ := r1
    exact cc.pin_un (hun j hj)
  refine ⟨fun i m H' => m = items.length - i ∧ i ≤ items.length ∧ ∃ G' e' acc, Le G1 G' ∧ Rel K P σ H' G' e' (.val (k + 1) (.list acc) (.ref D0) :: T) ∧ Inv i acc e' ∧ acc.length ≤ i ∧ ∀ j ∈ vs, e'[j]? = some .un,
    ⟨items.length, by simp, Nat.zero_le _, G1, e1, [], Le.refl _, rD, i0, Nat.le_refl _, hun⟩, ?_⟩
  rintro i m H2 ⟨rfl, hi, G2, e2, acc, l2, r2, inv, hacc, hun2⟩
  have rp : Rep1L K H2 G2 ds vs0 := (od.mono l2).one1 r2.le
  by_cases hlt : i < items.length
  · refine .inr ⟨w.goes i H2 G2 hlt r2.le rp, fun H' => ∃ G' e' acc, Le G1 G' ∧ Rel K P σ H' G' e' (.val (k + 1) (.list acc) (.ref D0) :: T) ∧ Inv (i + 1) acc e' ∧ acc.length ≤ i + 1 ∧ ∀ j ∈ vs, e'[j]? = some .un,
      fun H' ⟨G', e', acc', z⟩ => ⟨items.length - (i + 1), by omega, rfl, hlt, G', e', acc', z⟩, fun v H3 y => ?_⟩
    have hd : items[i]? = some items[i] := List.getElem?_eq_getElem hlt
    obtain ⟨G3, l3, r3⟩ := r2.temps' (H' := H3) (T' := .val 0 items[i] v :: .val (k + 1) (.list acc) (.ref D0) :: T) fun S z => w.yields i _ H2 G2 _ v H3 hd z rp y
    have r3' : Rel K P (L2.wipe σ vs) H3 G3 e2 (.val 0 items[i] v :: .val (k + 1) (.list acc) (.ref D0) :: T) := r3.cong (wipe_length _ _) fun j hj => wipe_out fun z => hj (hun2 j z)
    have len3 : ∀ {σ4 : St} {e4 : Env} {H4 G4 : Hp} {T4 : List Root}, σ4.length = (L2.wipe σ vs).length → Rel K P σ4 H4 G4 e4 T4 → e4.length = e2.length := fun hl r4 => by rw [← r4.len, hl, r3'.len]
    have un_of : ∀ {e4 : Env}, e4.length = e2.length → ∀ j ∈ vs, (wipeE e4 vs)[j]? = some .un := fun hl j hj => wipeE_in _ hj (by
      rw [hl]; exact (List.getElem?_eq_some_iff.mp (hun2 j hj)).1)
    -- from a turn's end to the next turn
    have back : ∀ {σ4 : St} {e4 : Env} {H4 G4 : Hp} {T4 : List Root}, L2.wipe σ4 vs = L2.wipe σ vs → e4.length = e2.length → Rel K P σ4 H4 G4 e4 T4 → Rel K P σ H4 G4 (wipeE e4 vs) T4 := fun {σ4 e4 H4 G4 T4} hw hl r4 => by
      have z := r4.wipe pin
      rw [hw] at z
      exact z.cong (wipe_length _ _).symm fun j hj => (wipe_out fun zz => hj (un_of hl j zz)).symm
    refine ⟨P, G3, e2, _, _, _, r3', it i _ acc e2 hd inv, fun e4 σ4 H4 G4 q4 l4 hs4 hl4 r4 => ?_⟩
    have hw4 : L2.wipe σ4 vs = L2.wipe σ vs := wipe_eq (by rw [hl4, wipe_length]) fun j hj => hs4 j fun z => hj (hsub j z)
    refine ⟨hw4, P, G4, e4, _, _, _, r4, q4, fun b e5 H5 G5 q5 l5 r5 => ?_, fun _ _ _ _ z => z.elim⟩
    cases b with
    | true =>
      rw [if_pos rfl] at q5
      refine L2.iteT ⟨P, G5, e5, _, _, _, r5, q5, fun d e6 v6 H6 G6 q6 l6 r6 => ?_, fun _ _ _ _ z => z.elim⟩
      obtain ⟨vs6, h61, h62, _⟩ := r6.relR.push
      refine ⟨vs6, h61, by rw [← h62]; omega, G6, wipeE e6 vs, acc ++ [d], l2.trans (l3.trans (l4.trans (l5.trans l6))), back hw4 (len3 hl4 r6) (r6.temps fun S z => ?_), q6, by simp; omega, un_of (len3 hl4 r6)⟩
      obtain ⟨vs7, h71, h72, z7⟩ := RelR.push z
      rw [h61] at h71; cases h71
      exact z7
    | false =>
      rw [if_neg Bool.false_ne_true] at q5
      exact L2.iteF ⟨G5, wipeE e5 vs, acc, l2.trans (l3.trans (l4.trans l5)), back hw4 (len3 hl4 r5) r5, q5, by omega, un_of (len3 hl4 r5)⟩
  · have e0 : i = items.length := by omega
    subst e0
    exact .inl ⟨w.stops H2 G2 r2.le rp, c _ e2 _ H2 G2 (iz acc e2 inv) (l1.trans l2) r2⟩
theorem ve_lc (hc : X.calm = true) (hN : X.N.Nodup) (hi : VI X W tg iter ts src) (ok : BlkOk X.N X.env.scope scope own) (hsub : ∀ i ∈ is, i ∈ own.map (·.2))
    (hg : ∀ (s : Shared) (H : Hp) (C : Addr) (cl : List (Str × Addr)) (fp : List Addr), VG (X.blk s H scope (compEnvC scope cl C X.env) fp) tg is g)
    (ht : ∀ (s : Shared) (H : Hp) (C : Addr) (cl : List (Str × Addr)) (fp : List Addr), VTs (X.blk s H scope (compEnvC scope cl C X.env) fp) WF ifs tt)
    (he : ∀ (s : Shared) (H : Hp) (C : Addr) (cl : List (Str × Addr)) (fp : List Addr), VE (X.blk s H scope (compEnvC scope cl C X.env) fp) WF k elt te) (hs : ∀ x, foldedSetIterable iter X.env x = pure x := by intro _; rfl) :
    VE X W (k + 1) (.ListComp elt [⟨tg, iter, ifs, 0⟩] scope pos) (vLc ts src (own.map (·.2)) g tt te) :=
  ⟨PE.imp (pe_lc hc hN hi.run ok (fun s H C cl fp => (hg s H C cl fp).run) (fun s H C cl fp => (ht s H C cl fp).run) (fun s H C cl fp => (he s H C cl fp).run) hs) fun σ H Q q => lc_ok hsub q⟩
theorem vs_setLc {i : Nat} {y : Str} {py spos : Pos} (hc : X.calm = true) (hN : X.N.Nodup) (hy : X.N[i]? = some y) (hyl : X.env.scope.names.lookup y = some .local)
    (hsw : swapsWith (.ListComp elt [⟨tg, iter, ifs, 0⟩] scope pos) (some (.Name y py)) spos.line X.env = pure true) (hi : VI X W tg iter ts src) (ok : BlkOk X.N X.env.scope scope own) (hsub : ∀ i ∈ is, i ∈ own.map (·.2))
    (hg : ∀ (s : Shared) (H : Hp) (C : Addr) (cl : List (Str × Addr)) (fp : List Addr), VG (X.blk s H scope (compEnvC scope cl C X.env) fp) tg is g)
    (ht : ∀ (s : Shared) (H : Hp) (C : Addr) (cl : List (Str × Addr)) (fp : List Addr), VTs (X.blk s H scope (compEnvC scope cl C X.env) fp) WF ifs tt)
    (he : ∀ (s : Shared) (H : Hp) (C : Addr) (cl : List (Str × Addr)) (fp : List Addr), VE (X.blk s H scope (compEnvC scope cl C X.env) fp) WF k elt te) (hs : ∀ x, foldedSetIterable iter X.env x = pure x := by intro _; rfl) :
    VS X W kr (.Assign [.Name y py] (.ListComp elt [⟨tg, iter, ifs, 0⟩] scope pos) spos) (vSet (k + 1) i (vLc ts src (own.map (·.2)) g tt te)) :=
  ⟨PS.imp (ps_setLc hc hN hy hyl hsw hi.run ok (fun s H C cl fp => (hg s H C cl fp).run) (fun s H C cl fp => (ht s H C cl fp).run) (fun s H C cl fp => (he s H C cl fp).run) hs) fun En σ H ⟨P, G, e, T, Dc, r, q, o⟩ =>
    lc_ok hsub ⟨P, G, e, T, _, _, r, q, fun d e' v H' G' ⟨hfr, q'⟩ l r' => o.nx _ _ H' G' q' l (r'.store hfr), o.x⟩⟩
end
end VL

/-! VL8: defs and their calls -/
namespace VL
open PySem L2 PySem.Spec PyProof.Rows

/-! ### a def's promise, where nothing is being shown (the guards are empty) -/
structure FnG (P : Program) (w : World) (K : PySem.W.Frag) (mg : Str → Option Value) (base : Heap) (k : Nat) (f : Addr) (fd : FuncData) (ps : List Str) (sp : Sp) : Prop where
  len : ∀ vs H Q E, sp vs H Q E → vs.length = ps.length
  run : ∀ (A : Around) (outer : List PySem.Env) (s : Shared) (H : Hp) (args : Args) (us : List Value) (vs : List V) (Q : VK) (E : XK), Room k A → A.guards = some [] → Env0 P w K mg base A outer s H → BindsTo s fd args (ps.zip us) → Vals vs us → sp vs H Q E →
    codeAny (model P w) A (.call (.ref f) args) (CR (L2.CX P w) outer P w H s Q E) s
theorem FnG.mono {P : Program} {w : World} {K : PySem.W.Frag} {mg : Str → Option Value} {base : Heap} {j k : Nat} {f : Addr} {fd : FuncData} {ps : List Str} {sp : Sp} (F : FnG P w K mg base j f fd ps sp) (h : j ≤ k) : FnG P w K mg base k f fd ps sp :=
  ⟨F.len, fun A outer s H args us vs Q E hr => F.run A outer s H args us vs Q E (hr.mono h)⟩
theorem fnG_of {P : Program} {w : World} {K : PySem.W.Frag} {mg : Str → Option Value} {base : Heap} {k : Nat} {f : Addr} {name qual : Str} {params : Arguments} {body : List Stmt} {scope : Scope} {dV kV doc pm cdv ct oc : Value} {an od : Option Addr}
    {osl : Array (Option Value)} {N ps : List Str} {sp : Sp} (lk : K.lookup f = some ⟨oc, od, .func (PySem.W.fnOf name qual params body scope dV kV doc pm an cdv ct), osl⟩) (hcd : PySem.W.codeIn K cdv qual = true) (S : FnScope N ps scope)
    (len : ∀ vs H Q E, sp vs H Q E → vs.length = ps.length)
    (hbody : ∀ (A : Around) (outer : List PySem.Env) (s : Shared) (H : Hp) (vs : List V) (Q : VK) (E : XK), Room k (A.deeper (envOfC qual scope s.heap.objs.size f cdv)) → A.guards = some [] → sp vs H Q E →
      ∃ t, PSs (cxOf (L2.CX P w) P w K mg base N qual scope f cdv A outer s H E) body t ∧ t { nx := fun _ H' => Q .non H', rt := Q } (L2.start N vs) H) :
    FnG P w K mg base (k + 1) f (PySem.W.fnOf name qual params body scope dV kV doc pm an cdv ct) ps sp := by
  refine ⟨len, fun A outer s H args us vs Q E hr hgd e0 hb r hsp => ?_⟩
  have hl := len _ _ _ _ hsp
  have KX : K.In s.heap := e0.mod.kin.keeps fun b o e => (e0.bs b o e).1
  have lim : s.heap.NoLimit := e0.mod.nolimit.keeps fun b o e => (e0.bs b o e).1
  have hkind : ∀ y ∈ ps.zip us, scope.names.lookup y.1 = some .local ∨ (scope.names.lookup y.1 = some .cell ∧ ((cellsFrom (s.heap.objs.size + 1) scope.names []).lookup y.1).isSome = true) := fun ⟨n, v⟩ hy => by
    rcases S.par n (List.of_mem_zip hy).1 with q | q
    · exact .inl q
    · exact .inr ⟨q, PySem.W.cellsFrom_some _ _ _ (.inl q)⟩
  refine codeAny_call_function hr.depth (KX _ _ lk) rfl S.co S.gen rfl (PySem.W.codeRec_of KX hcd) (hb _ _ _ _ ?_)
  refine wpAny_newFunctionEnv_cells S.kind hkind fun env he s1 x => ?_
  subst he
  refine ⟨lim.keeps x.toInCall.keep, codeAny_func ?_⟩
  obtain ⟨t, ht, hq⟩ := hbody A outer s H vs Q E (hr.deeper _) hgd hsp
  have I : L2.Inv (cxOf (L2.CX P w) P w K mg base N qual scope f cdv A outer s H E) [] (L2.start N vs) H s1 := inv_start S hr.hd e0 hl r x
  refine wpAny_mono (ht.run [] s1 (L2.start N vs) H _ I hq) (fun fl s' hs => ?_) fun e s' hs => hs
  have fin : ∀ {σ' : L2.St} {H' : Hp} {v : V} {u : Value}, L2.Inv (cxOf (L2.CX P w) P w K mg base N qual scope f cdv A outer s H E) [] σ' H' s' → RelV v u → Q v H' → CE outer P w H s Q u s' :=
    fun {σ' H' v u} J rv q => ⟨v, H', J.os, J.bare, J.base, J.hok, rv, q⟩
  cases fl with
  | ret u =>
    obtain ⟨v, σ', H', J, rv, q⟩ := hs
    exact fin J rv q
  | next =>
    obtain ⟨σ', H', J, q⟩ := hs
    exact fin (v := V.non) (u := Value.none) J rfl q
  | brk =>
    obtain ⟨_, _, _, q⟩ := hs
    exact False.elim q
  | cont =>
    obtain ⟨_, _, _, q⟩ := hs
    exact False.elim q

/-! ### contracts on data -/
/-- arguments -> (result, the inout arguments' data behind the call), (refusal, ..) -/
abbrev VSp := List D → (D → List D → Prop) → (Value → List D → Prop) → Prop
def argsR : List Nat → List D → List V → List Root
  | m :: ms, d :: ds, v :: vs => .val m d v :: argsR ms ds vs
  | _, _, _ => []
def outsR : List Nat → List D → List V → List Root
  | 0 :: ms, _ :: ds, _ :: vs => outsR ms ds vs
  | (k + 1) :: ms, d :: ds, v :: vs => .val (k + 1) d v :: outsR ms ds vs
  | _, _, _ => []
def spV (K : PySem.W.Frag) (modes : List Nat) (kr : Nat) (sp : VSp) : Sp := fun vs H Q E => ∃ (G : Hp) (T : List Root) (ds : List D) (Qc : D → List D → Prop) (Xc : Value → List D → Prop),
  ds.length = modes.length ∧ vs.length = modes.length ∧ RelR K H G (argsR modes ds vs ++ T) ∧ sp ds Qc Xc ∧
  (∀ d os v H' G', Qc d os → os.length = modes.length → Le G G' → RelR K H' G' (.val kr d v :: (outsR modes os vs ++ T)) → Q v H') ∧
  (∀ c os H' G', Xc c os → os.length = modes.length → Le G G' → RelR K H' G' (outsR modes os vs ++ T) → E c none H')
/-- the cells at a def's start -/
def startC : List Nat → List D → List Cell
  | 0 :: ms, d :: ds => .vr false 0 d :: startC ms ds
  | (k + 1) :: ms, d :: ds => .vr true (k + 1) d :: startC ms ds
  | _, _ => []
def startE (modes : List Nat) (n : Nat) (ds : List D) : Env := startC modes ds ++ List.replicate (n - ds.length) .un
def pinC : List Nat → List V → Pins
  | 0 :: ms, _ :: vs => none :: pinC ms vs
  | (_ + 1) :: ms, v :: vs => some v :: pinC ms vs
  | _, _ => []
/-- the inout arguments' data at the end -/
def outsE : List Nat → Env → (List D → Prop) → Prop
  | [], _, f => f []
  | 0 :: ms, _ :: e, f => outsE ms e fun os => f (.none :: os)
  | (k + 1) :: ms, .vr true k' d :: e, f => k' = k + 1 ∧ outsE ms e fun os => f (d :: os)
  | _, _, _ => False
theorem cells_un : ∀ n : Nat, Cells (List.replicate n none) (List.replicate n none) (List.replicate n .un) []
  | 0 => .nil
  | n + 1 => .un (cells_un n)
theorem start_cells {n : Nat} : ∀ {modes : List Nat} {ds : List D} {vs : List V}, ds.length = modes.length → vs.length = modes.length →
    Cells (pinC modes vs ++ List.replicate n none) (vs.map some ++ List.replicate n none) (startC modes ds ++ List.replicate n .un) (argsR modes ds vs)
  | [], [], [], _, _ => cells_un n
  | [], _ :: _, _, e, _ => by simp at e
  | [], _, _ :: _, _, e => by simp at e
  | _ :: _, [], _, e, _ => by simp at e
  | _ :: _, _ :: _, [], _, e => by simp at e
  | 0 :: ms, d :: ds, v :: vs, e, e' => .vr (start_cells (by simpa using e) (by simpa using e'))
  | (k + 1) :: ms, d :: ds, v :: vs, e, e' => .io (start_cells (by simpa using e) (by simpa using e'))
theorem argsR_zero {K : PySem.W.Frag} {H G : Hp} {modes : List Nat} : ∀ {ds : List D} {vs : List V} {T : List Root}, RelR K H G (argsR modes ds vs ++ T) → RelR K H G (outsR modes ds vs ++ T) := by
  induction modes with
  | nil => intro ds vs T h; simpa [argsR, outsR] using h
  | cons m ms ih =>
    intro ds vs T h
    cases ds with
    | nil => simpa [argsR, outsR] using h
    | cons d ds =>
      cases vs with
      | nil => cases m <;> simpa [argsR, outsR] using h
      | cons v vs =>
        have h : RelR K H G (.val m d v :: (argsR ms ds vs ++ T)) := h
        cases m with
        | zero => exact ih h.tail
        | succ k =>
          show RelR K H G (.val (k + 1) d v :: (outsR ms ds vs ++ T))
          have h1 : RelR K H G (argsR ms ds vs ++ (.val (k + 1) d v :: T)) := h.perm List.perm_middle.symm
          exact (ih h1).perm List.perm_middle
/-- what the end's cells say of the inout arguments -/
theorem outsE_ok {K : PySem.W.Frag} {H G : Hp} {n : Nat} : ∀ {modes : List Nat} {vs : List V} {σ : L2.St} {e : Env} {R T : List Root} {f : List D → Prop}, vs.length = modes.length → Cells (pinC modes vs ++ List.replicate n none) σ e R → outsE modes e f → RelR K H G (R ++ T) →
    ∃ os, f os ∧ os.length = modes.length ∧ RelR K H G (outsR modes os vs ++ T)
  | [], vs, σ, e, R, T, f, hl, c, h, r => ⟨[], h, rfl, by simpa [outsR] using r.right⟩
  | _ :: _, [], _, _, _, _, _, hl, _, _, _ => by simp at hl
  | 0 :: ms, v :: vs, σ, e, R, T, f, hl, c, h, r => by
    have c : Cells (none :: (pinC ms vs ++ List.replicate n none)) σ e R := c
    cases c with
    | un c1 =>
      obtain ⟨os, h1, h2, h3⟩ := outsE_ok (by simpa using hl) c1 h r
      exact ⟨.none :: os, h1, by simp [h2], h3⟩
    | vr c1 =>
      obtain ⟨os, h1, h2, h3⟩ := outsE_ok (by simpa using hl) c1 h (RelR.tail r)
      exact ⟨.none :: os, h1, by simp [h2], h3⟩
  | (k + 1) :: ms, v :: vs, σ, e, R, T, f, hl, c, h, r => by
    have c : Cells (some v :: (pinC ms vs ++ List.replicate n none)) σ e R := c
    cases c with
    | @io _ _ e0 R0 _ k' d c1 =>
      have hh : k' = k + 1 ∧ outsE ms e0 fun os => f (d :: os) := h
      obtain ⟨ek, hh⟩ := hh
      subst ek
      have r1 : RelR K H G (R0 ++ (.val (k + 1) d v :: T)) := r.perm List.perm_middle.symm
      obtain ⟨os, h1, h2, h3⟩ := outsE_ok (by simpa using hl) c1 hh r1
      exact ⟨d :: os, h1, by simp [h2], h3.perm List.perm_middle⟩
/-- what a def's body must do with its data -/
def DefOk (modes : List Nat) (n : Nat) (t : VTS) (sp : VSp) : Prop := ∀ ds Qc Xc, sp ds Qc Xc → ds.length = modes.length ∧
  t { nx := fun e => outsE modes e (Qc .none), rt := fun d e => outsE modes e (Qc d), bk := fun _ => False, ct := fun _ => False, ex := fun c e => outsE modes e (Xc c) } (startE modes n ds)
abbrev WE (E : XK) : WX := fun c d _ H => E c d H
section
variable {P : Program} {w : World} {K : PySem.W.Frag} {mg : Str → Option Value} {base : Heap}
/-- THE RULE for a def -/
theorem def_ok {x qual : Str} {st : Stmt} {f : Addr} {fd : FuncData} {N ps : List Str} {k kr : Nat} {modes : List Nat} {sp : VSp} {t : VTS} (F : Fun K x qual st f fd) (S : FnScope N ps (defScope st)) (hm : modes.length = ps.length) (hn : ps.length ≤ N.length)
    (hb : ∀ (cdv : Value) (A : Around) (outer : List PySem.Env) (s : Shared) (H : Hp) (E : XK), Room k (A.deeper (envOfC qual (defScope st) s.heap.objs.size f cdv)) → (A.deeper (envOfC qual (defScope st) s.heap.objs.size f cdv)).guards = some [] →
      Takes (cxOf (L2.CX P w) P w K mg base N qual (defScope st) f cdv A outer s H E) (WE E) → PassesOwn (model P w) (A.deeper (envOfC qual (defScope st) s.heap.objs.size f cdv)) (envOfC qual (defScope st) s.heap.objs.size f cdv) (cxOf (L2.CX P w) P w K mg base N qual (defScope st) f cdv A outer s H E).xe →
      VSs (cxOf (L2.CX P w) P w K mg base N qual (defScope st) f cdv A outer s H E) (WE E) kr (defBody st) t)
    (hd : DefOk modes N.length t sp) : FnG P w K mg base (k + 1) f fd ps (spV K modes kr sp) := by
  obtain ⟨oc, od, kV, doc, pm, an, cdv, ct, osl, rfl, lk, hcd⟩ := F.ex
  refine fnG_of lk hcd S (fun vs H Q E ⟨G, T, ds, Qc, Xc, h1, h2, _⟩ => by rw [h2, hm]) fun A outer s H vs Q E hr hgd hsp => ?_
  obtain ⟨G, T, ds, Qc, Xc, h1, h2, r, hs, c, cx⟩ := hsp
  refine ⟨_, (hb cdv A outer s H E hr hgd (takes_of rfl rfl rfl rfl) (passes_of rfl)).run, ?_⟩
  have hst : L2.start N vs = vs.map some ++ List.replicate (N.length - ds.length) none := by unfold L2.start; rw [h2, h1]
  have hc := start_cells (n := N.length - ds.length) h1 h2
  refine ⟨pinC modes vs ++ List.replicate (N.length - ds.length) none, G, startE modes N.length ds, T, _, ⟨argsR modes ds vs, by rw [hst]; exact hc, r⟩, (hd ds Qc Xc hs).2, ?_, ?_, ?_, ?_, ?_⟩
  · intro e' σ' H' G' q l ⟨R, cc, r'⟩
    obtain ⟨os, z1, z2, z3⟩ := outsE_ok h2 cc q r'
    refine c .none os .non H' G' z1 z2 l ?_
    exact (New.old' (k := kr) r'.le (by rw [Rep]) (.inr rfl)).relR z3
  · intro d e' v σ' H' G' q l ⟨R, cc, r'⟩
    obtain ⟨os, z1, z2, z3⟩ := outsE_ok h2 cc q r'
    exact c d os v H' G' z1 z2 l (z3.perm List.perm_middle)
  · intro e' σ' H' G' q; exact q.elim
  · intro e' σ' H' G' q; exact q.elim
  · intro cc0 e' σ' H' G' q l ⟨R, cc, r'⟩
    obtain ⟨os, z1, z2, z3⟩ := outsE_ok h2 cc q r'
    exact cx cc0 os H' G' z1 z2 l z3
end

/-! ### calls -/
def cargs : List Nat → List Om → List D → Env → (List D → Prop) → Prop
  | [], [], [], _, f => f []
  | 0 :: ms, .ex :: os, d :: ds, e, f => cargs ms os ds e fun xs => f (d :: xs)
  | (k + 1) :: ms, .fr k' :: os, d :: ds, e, f => k' = k + 1 ∧ cargs ms os ds e fun xs => f (d :: xs)
  | (k + 1) :: ms, .bv i :: os, _ :: ds, e, f => match e[i]? with
    | some (.vr _ k' d) => k' = k + 1 ∧ cargs ms os ds e fun xs => f (d :: xs)
    | _ => False
  | _, _, _, _, _ => False
def couts : List Nat → List Om → List D → Env → Env
  | m :: _, .bv i :: _, o :: _, e => match e[i]? with
    | some (.vr p _ _) => e.set i (.vr p m o)
    | _ => e
  | _ :: ms, _ :: os, _ :: outs, e => couts ms os outs e
  | _, _, _, e => e
def nbv : List Om → Nat
  | [] => 0
  | .bv _ :: os => nbv os + 1
  | _ :: os => nbv os
def vCall (modes : List Nat) (os : List Om) (ts : VTA) (sp : VSp) : VTE := fun e Q X => ts e (fun ds e' => cargs modes os ds e' fun xs => sp xs (fun d outs => Q d (couts modes os outs e')) (fun c outs => X c (couts modes os outs e'))) X
section
variable {K : PySem.W.Frag} {P : Pins} {σ : L2.St} {H G : Hp} {e : Env} {T : List Root} {os : List Om} {ds : List D} {vs : List V}
/-- as Rel.at, the further roots apart -/
theorem Rel.at' {i : Nat} {p : Bool} {k : Nat} {d : D} (h : Rel K P σ H G e T) (hi : e[i]? = some (.vr p k d)) : ∃ v S, σ[i]? = some (some v) ∧ RelR K H G (.val k d v :: (S ++ T)) ∧
    (∀ k' d' H' G' T', RelR K H' G' (.val k' d' v :: (S ++ T')) → Rel K P σ H' G' (e.set i (.vr p k' d')) T') := by
  obtain ⟨R, c, r⟩ := h
  obtain ⟨v, R1, R2, h1, rfl, h3, h4, h5⟩ := c.at hi
  refine ⟨v, R1 ++ R2, h1, r.perm (permc fun a => by simp only [List.count_append, List.count_cons]; omega), fun k' d' H' G' T' q => ⟨_, h4 k' d', q.perm (permc fun a => by simp only [List.count_append, List.count_cons]; omega)⟩⟩
theorem cargs_0 (od : Opds σ os ds vs) : ∀ {modes : List Nat} {f : List D → Prop}, nbv os = 0 → cargs modes os ds e f → ∃ xs, f xs ∧ xs.length = modes.length ∧ vs.length = modes.length ∧ tmps os ds vs = argsR modes xs vs := by
  induction od with
  | nil =>
    intro modes f hb h
    cases modes with
    | nil => exact ⟨[], h, rfl, rfl, rfl⟩
    | cons m ms => cases m <;> exact h.elim
  | @ex os ds vs d v o ih =>
    intro modes f hb h
    cases modes with
    | nil => exact h.elim
    | cons m ms =>
      cases m with
      | zero =>
        obtain ⟨xs, h1, h2, h3, h4⟩ := ih (modes := ms) hb h
        exact ⟨d :: xs, h1, by simp [h2], by simp [h3], by show Root.val 0 d v :: tmps os ds vs = Root.val 0 d v :: argsR ms xs vs; rw [h4]⟩
      | succ k => exact h.elim
  | @fr os ds vs d v k' o ih =>
    intro modes f hb h
    cases modes with
    | nil => exact h.elim
    | cons m ms =>
      cases m with
      | zero => exact h.elim
      | succ k =>
        obtain ⟨rfl, h⟩ := h
        obtain ⟨xs, h1, h2, h3, h4⟩ := ih (modes := ms) hb h
        exact ⟨d :: xs, h1, by simp [h2], by simp [h3], by show Root.val (k + 1) d v :: tmps os ds vs = Root.val (k + 1) d v :: argsR ms xs vs; rw [h4]⟩
  | bv hs o => intro modes f hb h; simp [nbv] at hb
theorem couts_0 : ∀ {modes : List Nat} {os : List Om} {outs : List D}, nbv os = 0 → couts modes os outs e = e
  | [], _, _, _ => by unfold couts; rfl
  | m :: ms, [], _, _ => by unfold couts; rfl
  | m :: ms, .ex :: os, [], _ => by unfold couts; rfl
  | m :: ms, .ex :: os, o :: outs, h => by unfold couts; exact couts_0 (by simpa [nbv] using h)
  | m :: ms, .fr _ :: os, [], _ => by unfold couts; rfl
  | m :: ms, .fr _ :: os, o :: outs, h => by unfold couts; exact couts_0 (by simpa [nbv] using h)
  | m :: ms, .bv _ :: os, _, h => by simp [nbv] at h
/-- the operands of a call, at most one of them a name looked at: the roots that are handed over, and what comes back -/
theorem cargs_1 (rel : Rel K P σ H G e (tmps os ds vs ++ T)) : ∀ {modes : List Nat} {f : List D → Prop}, nbv os ≤ 1 → Opds σ os ds vs → cargs modes os ds e f →
    ∃ xs S, f xs ∧ xs.length = modes.length ∧ vs.length = modes.length ∧ RelR K H G (argsR modes xs vs ++ S) ∧
      ∀ outs H' G' U, outs.length = modes.length → RelR K H' G' (U ++ (outsR modes outs vs ++ S)) → Rel K P σ H' G' (couts modes os outs e) (U ++ T) := by
  -- the operands by the place of the name
  have main : ∀ (os : List Om) (ds : List D) (vs : List V) (modes : List Nat) (f : List D → Prop), nbv os ≤ 1 → Opds σ os ds vs → cargs modes os ds e f →
      (nbv os = 0) ∨ ∃ i p k d v xs, e[i]? = some (.vr p k d) ∧ σ[i]? = some (some v) ∧ f xs ∧ xs.length = modes.length ∧ vs.length = modes.length ∧ (argsR modes xs vs).Perm (.val k d v :: tmps os ds vs) ∧
        ∀ outs, outs.length = modes.length → ∃ o O, couts modes os outs e = e.set i (.vr p k o) ∧ (outsR modes outs vs).Perm (.val k o v :: O) := by
    intro os
    induction os with
    | nil => intro ds vs modes f _ _ _; exact .inl rfl
    | cons o os ih =>
      intro ds vs modes f hb od h
      cases od with
      | @ex _ ds vs d v od =>
        cases modes with
        | nil => exact h.elim
        | cons m ms =>
          cases m with
          | succ k => exact h.elim
          | zero =>
            rcases ih ds vs ms _ hb od h with h0 | ⟨i, p, k, d', v', xs, h1, h2, h3, h4, h5, h6, h7⟩
            · exact .inl h0
            · refine .inr ⟨i, p, k, d', v', d :: xs, h1, h2, h3, by simp [h4], by simp [h5], ?_, fun outs ho => ?_⟩
              · show (Root.val 0 d v :: argsR ms xs vs).Perm (.val k d' v' :: .val 0 d v :: tmps os ds vs)
                exact (List.Perm.cons _ h6).trans (List.Perm.swap _ _ _)
              · cases outs with
                | nil => simp at ho
                | cons o outs => exact h7 outs (by simpa using ho)
      | @fr _ ds vs d v k0 od =>
        cases modes with
        | nil => exact h.elim
        | cons m ms =>
          cases m with
          | zero => exact h.elim
          | succ k1 =>
            obtain ⟨rfl, h⟩ := h
            rcases ih ds vs ms _ hb od h with h0 | ⟨i, p, k, d', v', xs, h1, h2, h3, h4, h5, h6, h7⟩
            · exact .inl h0
            · refine .inr ⟨i, p, k, d', v', d :: xs, h1, h2, h3, by simp [h4], by simp [h5], ?_, fun outs ho => ?_⟩
              · show (Root.val (k1 + 1) d v :: argsR ms xs vs).Perm (.val k d' v' :: .val (k1 + 1) d v :: tmps os ds vs)
                exact (List.Perm.cons _ h6).trans (List.Perm.swap _ _ _)
              · cases outs with
                | nil => simp at ho
                | cons o outs =>
                  obtain ⟨o', O, e1, e2⟩ := h7 outs (by simpa using ho)
                  exact ⟨o', .val (k1 + 1) o v :: O, e1, by
                    show (Root.val (k1 + 1) o v :: outsR ms outs vs).Perm (.val k o' v' :: .val (k1 + 1) o v :: O)
                    exact (List.Perm.cons _ e2).trans (List.Perm.swap _ _ _)⟩
      | @bv _ ds vs d v i hs od =>
        have hb0 : nbv os = 0 := by
          have : nbv os + 1 ≤ 1 := hb
          omega
        cases modes with
        | nil => exact h.elim
        | cons m ms =>
          cases m with
          | zero => exact h.elim
          | succ k1 =>
            unfold cargs at h
            split at h
            · rename_i p k' d' hi
              obtain ⟨rfl, h⟩ := h
              obtain ⟨xs, h1, h2, h3, h4⟩ := cargs_0 od (modes := ms) hb0 h
              refine .inr ⟨i, p, k1 + 1, d', v, d' :: xs, hi, hs, h1, by simp [h2], by simp [h3], ?_, fun outs ho => ?_⟩
              · show (Root.val (k1 + 1) d' v :: argsR ms xs vs).Perm (.val (k1 + 1) d' v :: tmps os ds vs)
                rw [h4]
              · cases outs with
                | nil => simp at ho
                | cons o outs =>
                  refine ⟨o, outsR ms outs vs, ?_, List.Perm.refl _⟩
                  unfold couts
                  rw [hi]
            · exact h.elim
  intro modes f hb od h
  rcases main os ds vs modes f hb od h with h0 | ⟨i, p, k, d, v, xs, h1, h2, h3, h4, h5, h6, h7⟩
  · obtain ⟨xs, h1, h2, h3, h4⟩ := cargs_0 od h0 h
    obtain ⟨R, c, r⟩ := rel
    refine ⟨xs, R ++ T, h1, h2, h3, by rw [← h4]; exact r.perm (permc fun a => by simp only [List.count_append]; omega), fun outs H' G' U ho q => ?_⟩
    rw [couts_0 h0]
    exact ⟨R, c, RelR.right (R := outsR modes outs vs) (q.perm (permc fun a => by simp only [List.count_append]; omega))⟩
  · obtain ⟨v', S, g1, g2, g3⟩ := rel.at' h1
    rw [h2] at g1; cases g1
    refine ⟨xs, S ++ T, h3, h4, h5, g2.perm ?_, fun outs H' G' U ho q => ?_⟩
    · have e1 : (argsR modes xs vs ++ (S ++ T)).Perm ((.val k d v :: tmps os ds vs) ++ (S ++ T)) := List.Perm.append_right _ h6
      refine List.Perm.trans ?_ e1.symm
      exact permc fun a => by simp only [List.count_append, List.count_cons]; omega
    · obtain ⟨o, O, e1, e2⟩ := h7 outs ho
      rw [e1]
      refine g3 k o H' G' (U ++ T) (RelR.right (R := O) (q.perm ?_))
      have e3 : (U ++ (outsR modes outs vs ++ (S ++ T))).Perm (U ++ ((.val k o v :: O) ++ (S ++ T))) := List.Perm.append_left U (List.Perm.append_right _ e2)
      exact e3.trans (permc fun a => by simp only [List.count_append, List.count_cons]; omega)
end
section
variable {X : Cx} {W : WX} {k kr : Nat} {f : Addr} {fd : FuncData} {ps : List Str} {modes : List Nat} {os : List Om} {ts : VTA} {sp : VSp} {x : Str} {p pos : Pos} {ex : Expr} {es : List Expr}
/-- the callee runs -/
theorem run_fnG {pins : List (Addr × Obj)} {σ : L2.St} {H : Hp} {s : Shared} {Q : VK} {us : List Value} {vs : List V} {sp : Sp} (F : FnG X.prog X.w X.K X.mg X.base k f fd ps sp) (hr : Room k X.A) (hgd : X.A.guards = some []) (hb : Binds X.K fd ps []) (tk : Takes X W)
    (I : L2.Inv X pins σ H s) (r : Vals vs us) (h : sp vs H Q (fun c d H' => W c d σ H')) : wpAny (model X.prog X.w) X.A (call (.ref f) us) (EP X pins σ Q) X.xe s := by
  have hl : (us ++ ([] : List Value)).length = ps.length := by rw [List.append_nil, ← r.length]; exact F.len _ _ _ _ h
  have hb' := hb s us I.kIn hl
  rw [List.append_nil] at hb'
  refine wpAny_call (codeAny_mono (F.run X.A X.stack s H ⟨us, []⟩ us vs Q _ hr hgd I.env0 hb' r h) fun r s' hq => ?_)
  cases r with
  | error e => exact tk e s' (XE.of_call I (fun cls d H' h => h) hq)
  | ok fl =>
    cases fl with
    | ret u => exact I.after hq
    | next => exact False.elim hq
    | brk => exact False.elim hq
    | cont => exact False.elim hq
def tCallG (W : WX) (sp : Sp) (t : TA) : TE := fun σ H Q => t σ H fun vs H1 => sp vs H1 Q fun c d H' => W c d σ H'
theorem pe_callG {t : TA} {sp : Sp} (F : FnG X.prog X.w X.K X.mg X.base k f fd ps sp) (hr : Room k X.A) (hgd : X.A.guards = some []) (tk : Takes X W) (hg : Gl X x) (hm : X.mg x = some (.ref f)) (hk : PySem.W.keepIn X.K (.ref f) = true) (hb : Binds X.K fd ps [])
    (ha : PA X (ex :: es) t) (hdb : (x == ("__debug__" : Str)) = false := by decide) (he : starEach (ex :: es) X.env = (false, eval ex X.env) :: starEach es X.env := by rfl) (hpl : (backTo pos (starEach es X.env)).any (·.1) = false := by rfl) :
    PE X (.Call (.Name x p) (ex :: es) [] pos) (tCallG W sp t) := by
  refine ⟨fun pins s σ H Q I h => ?_⟩
  refine wpAny_Call_Name_kw (ld_glob I hg hm ?_ hdb)
  refine PySem.W.callWith_K (h₀ := X.base) I.ok.mod.kin hk (thn (ha.run pos pins s σ H _ I h) fun us s1 ⟨vs, H1, I1, r, q⟩ => ⟨I1.kIn, ?_⟩) he hpl
  exact run_fnG F hr hgd hb tk I1 r q
theorem ve_call (F : FnG X.prog X.w X.K X.mg X.base k f fd ps (spV X.K modes kr sp)) (hr : Room k X.A) (hgd : X.A.guards = some []) (tk : Takes X W) (hg : Gl X x) (hm : X.mg x = some (.ref f)) (hk : PySem.W.keepIn X.K (.ref f) = true) (hb : Binds X.K fd ps [])
    (ha : VA X W (ex :: es) os ts) (h1 : nbv os ≤ 1) (hdb : (x == ("__debug__" : Str)) = false := by decide) (he : starEach (ex :: es) X.env = (false, eval ex X.env) :: starEach es X.env := by rfl) (hpl : (backTo pos (starEach es X.env)).any (·.1) = false := by rfl) :
    VE X W kr (.Call (.Name x p) (ex :: es) [] pos) (vCall modes os ts sp) :=
  ⟨PE.imp (pe_callG F hr hgd tk hg hm hk hb ha.run hdb he hpl) fun σ H Q ⟨P, G, e, T, Qc, Xc, r, q, c, x⟩ => ⟨P, G, e, T, _, Xc, r, q, fun ds e' vs H' G' hq l od r' => by
    obtain ⟨xs, S, g1, g2, g3, g4, g5⟩ := cargs_1 r' h1 od hq
    refine ⟨G', S, xs, _, _, g2, g3, g4, g1, fun d os' v H2 G2 q2 ho l2 r2 => c d _ v H2 G2 q2 (l.trans l2) (g5 os' H2 G2 [.val kr d v] ho r2), fun cc os' H2 G2 q2 ho l2 r2 => x cc _ H2 G2 q2 (l.trans l2) (g5 os' H2 G2 [] ho r2)⟩, x⟩⟩
end
end VL

/-! VL9: operations on data -/
namespace VLq
open PySem PySem.AutoSeq1 Builtin
open Sem (wp)
theorem list_add_any (l : Addr) (items : Array Value) (n : Nat) (d : Option Addr) (sl : Array (Option Value)) (b : Addr) (items2 : Array Value) (n2 : Nat) (d2 : Option Addr) (sl2 : Array (Option Value)) (hc0 : items.size + items2.size ≤ sizeLine) :
    Meets (Builtin.«list.__add__» ⟨[.ref l, .ref b], []⟩) (fun _ R s => s.heap.get? l = some { cls := .type "list", dict := d, data := .seq items n, slots := sl } ∧ s.heap.get? b = some { cls := .type "list", dict := d2, data := .seq items2 n2, slots := sl2 } ∧ R (.ok (.ret (Value.ref s.heap.objs.size))) { s with heap := s.heap.push { cls := Value.type "list", data := Data.seq (items ++ items2) }, toks := s.toks }) :=
  .of_wp fun prog w A R s h => by obtain ⟨hp, g, d, tk, os⟩ := s; obtain ⟨hl, hb, h⟩ := h; have f1 := idx_int; have f2 := sub_tuple_tuple; have f3 := sub_list_list; have f4 := sub_tuple_list; have f5 := sub_list_tuple; wp_walk using wpAny_loadPart' hl, wpAny_loadPart' hb; exact ⟨_, rfl, h⟩
end VLq
namespace VL
open PySem L2

section
variable {K : PySem.W.Frag} {G H : Hp} {k : Nat} {d : D} {w : V} {q : D → Prop} {Q : VK}
abbrev Cont (K : PySem.W.Frag) (G H : Hp) (k : Nat) (q : D → Prop) (Q : VK) : Prop := ∀ d w G' H' f, q d → New K G H k d w G' H' f → Q w H'
theorem ret_flat (l : Le G H) (c : Cont K G H k q Q) (hq : q d) (hf : flat d = true) (hr : Rep K G d w) : Q w H := c d w G H [] hq (New.old' l hr (.inr hf))
theorem ret_old (l : Le G H) (c : Cont K G H 0 q Q) (hq : q d) (hr : Rep K G d w) : Q w H := c d w G H [] hq (New.old' l hr (.inl rfl))
theorem ret_int {i : Int} (l : Le G H) (c : Cont K G H k q Q) (hq : q (.int i)) : Q (.int i) H := ret_flat l c hq rfl (by rw [Rep])
theorem ret_bool {i : Bool} (l : Le G H) (c : Cont K G H k q Q) (hq : q (.bool i)) : Q (.bl i) H := ret_flat l c hq rfl (by rw [Rep])
theorem ret_str {i : Str} (l : Le G H) (c : Cont K G H k q Q) (hq : q (.str i)) : Q (.str i) H := ret_flat l c hq rfl (by rw [Rep])
theorem ret_none (l : Le G H) (c : Cont K G H k q Q) (hq : q .none) : Q .non H := ret_flat l c hq rfl (by rw [Rep])
theorem ret_list {ds : List D} {vs : List V} (l : Le G H) (c : Cont K G H 1 q Q) (hq : q (.list ds)) (hr : RepL K G ds vs) {p : Addr} (hp : H p = none) : Q (.ref p) (upd H p (.lst vs)) := c _ _ _ _ _ hq (New.list l hp hr)
theorem ret_tup {ds : List D} {vs : List V} (l : Le G H) (c : Cont K G H 1 q Q) (hq : q (.tuple ds)) (hr : RepL K G ds vs) {p : Addr} (hp : H p = none) : Q (.ref p) (upd H p (.tup vs)) := c _ _ _ _ _ hq (New.tup l hp hr)
theorem repL_ints : ∀ {ns : List Int}, RepL K G (ns.map .int) (ns.map V.int)
  | [] => RepL.nil
  | _ :: _ => RepL.cons (by rw [Rep]) repL_ints
theorem repL_strs : ∀ {ns : List Str}, RepL K G (ns.map .str) (ns.map V.str)
  | [] => RepL.nil
  | _ :: _ => RepL.cons (by rw [Rep]) repL_strs
theorem repL_ints' : ∀ {ns : List Int} {vs : List V}, RepL K G (ns.map .int) vs → vs = ns.map V.int
  | [], _, h => by simpa [RepL] using h
  | n :: ns, vs, h => by
    rw [List.map_cons, RepL] at h
    obtain ⟨v, r, rfl, h1, h2⟩ := h
    rw [Rep] at h1
    rw [h1, repL_ints' h2]; rfl
theorem repL_strs' : ∀ {ns : List Str} {vs : List V}, RepL K G (ns.map .str) vs → vs = ns.map V.str
  | [], _, h => by simpa [RepL] using h
  | n :: ns, vs, h => by
    rw [List.map_cons, RepL] at h
    obtain ⟨v, r, rfl, h1, h2⟩ := h
    rw [Rep] at h1
    rw [h1, repL_strs' h2]; rfl
end

/-! ### from data to the model's Reads -/
section
variable {X : Cx} {pins : List (Addr × Obj)} {σ : L2.St} {H : Hp} {s : Shared}
theorem readsAll_keys {ks : List Key} : ∀ {us : List Value}, Paired (fun k u => keyIs k u = true) ks us → ReadsAll s.heap us (ks.map keyD) [] := by
  induction ks with
  | nil => intro us h; cases h; exact .nil
  | cons k ks ih =>
    intro us h
    cases h with
    | cons h t =>
      rcases keyIs_shape h with ⟨i, tk, rfl, rfl⟩ | ⟨x, tk, rfl, rfl⟩
      · exact ReadsAll.cons (as := []) (bs := []) (.int i tk) (ih t)
      · exact ReadsAll.cons (as := []) (bs := []) (.str x tk) (ih t)
end

/-! ### ints, texts -/
section
variable {X : Cx}
def opAdd : OPD
  | [.int a, .int b], q => q (.int (a + b))
  | [.str a, .str b], q => a.length + b.length ≤ sizeLine ∧ q (.str (a ++ b))
  | [.list a, .list b], q => a.length + b.length ≤ sizeLine ∧ q (.list (a ++ b))
  | _, _ => False
theorem os_add : OpR X (binaryOp .Add) fun x y => opS X.K 1 opAdd [x, y] := by
  intro pins s σ H x y v u Q I rx ry ⟨G, ds, q, l, rp, ho, c⟩
  unfold opAdd at ho
  split at ho
  · obtain ⟨v1, v2, e, h1, h2⟩ := rep1L_2 rp
    cases e
    rw [rep1_int] at h1 h2
    subst h1 h2
    exact op_add pins s σ H _ _ v u Q I rx ry ⟨_, _, rfl, rfl, ret_int l c ho⟩
  · obtain ⟨v1, v2, e, h1, h2⟩ := rep1L_2 rp
    cases e
    rw [rep1_str] at h1 h2
    subst h1 h2
    exact op_add_str pins s σ H _ _ v u Q I rx ry ⟨_, _, rfl, rfl, ho.1, ret_str l c ho.2⟩
  · obtain ⟨v1, v2, e, ⟨la, vs, e1, h1, h2⟩, ⟨lb, us, e2, h3, h4⟩⟩ := rep1L_2 rp
    cases e
    subst e1 e2
    cases rx
    cases ry
    obtain ⟨its, r, ⟨⟨c1, d1, dt1, sl1⟩, n, e, e1, e2, e3⟩, z⟩ := I.list h1
    obtain ⟨its2, r2, ⟨⟨c2, d2, dt2, sl2⟩, n2, g, g1, g2, g3⟩, z2⟩ := I.list h3
    simp only at e1 e2 e3 g1 g2 g3
    subst e1 e2 e3 g1 g2 g3
    have hl := r.length
    have hl2 := r2.length
    have hL := h2.length
    have hL2 := h4.length
    refine concat_meets ⟨_, e, rfl⟩ ⟨_, g, rfl⟩ noFill_list_add seq_list_add F.slot_list_add F.entry_list_add (F.args_list_add_2 _ _) (VLq.list_add_any la its.toArray n _ _ lb its2.toArray n2 _ _ (by simp only [List.size_toArray]; omega)) ⟨e, g, ?_⟩
    have ea : its.toArray ++ its2.toArray = (its ++ its2).toArray := by simp
    rw [ea]
    have hp := I.fresh
    exact ⟨.ref _, _, I.lnew (t' := s.toks) (r.append r2) (by rw [List.length_append]; omega), rfl, ret_list l c ho.2 (h2.append h4) hp⟩
  · exact ho.elim
def opI2 (f : Int → Int → D) : OPD
  | [.int a, .int b], q => q (f a b)
  | _, _ => False
def opI2c (C : Int → Int → Prop) (f : Int → Int → D) : OPD
  | [.int a, .int b], q => C a b ∧ q (f a b)
  | _, _ => False
def opSub : OPD := opI2 fun a b => .int (a - b)
theorem os_sub {k : Nat} : OpR X (binaryOp .Sub) fun x y => opS X.K k opSub [x, y] := by
  intro pins s σ H x y v u Q I rx ry ⟨G, ds, q, l, rp, ho, c⟩
  unfold opSub opI2 at ho
  split at ho
  · obtain ⟨v1, v2, e, h1, h2⟩ := rep1L_2 rp
    cases e
    rw [rep1_int] at h1 h2
    subst h1 h2
    exact op_sub pins s σ H _ _ v u Q I rx ry ⟨_, _, rfl, rfl, ret_int l c ho⟩
  · exact ho.elim
/-- one factor below 2 ^ 64; a list so often -/
def opMul : OPD
  | [.int a, .int b], q => CMul a b ∧ q (.int (a * b))
  | [.list a, .int k], q => (-(2 ^ 63) ≤ k ∧ k < 2 ^ 63 ∧ a.length * k.toNat ≤ sizeLine) ∧ q (.list (List.replicate k.toNat a).flatten)
  | _, _ => False
theorem repL_rep {K : PySem.W.Frag} {G : Hp} {ds : List D} {vs : List V} (h : RepL K G ds vs) : ∀ n : Nat, RepL K G (List.replicate n ds).flatten (List.replicate n vs).flatten
  | 0 => RepL.nil
  | n + 1 => by
    rw [List.replicate_succ, List.replicate_succ, List.flatten_cons, List.flatten_cons]
    exact h.append (repL_rep h n)
theorem os_mul : OpR X (binaryOp .Mult) fun x y => opS X.K 1 opMul [x, y] := by
  intro pins s σ H x y v u Q I rx ry ⟨G, ds, q, l, rp, ho, c⟩
  unfold opMul at ho
  split at ho
  · obtain ⟨v1, v2, e, h1, h2⟩ := rep1L_2 rp
    cases e
    rw [rep1_int] at h1 h2
    subst h1 h2
    exact op_mul pins s σ H _ _ v u Q I rx ry ⟨_, _, rfl, rfl, ho.1, ret_int l c ho.2⟩
  · rename_i a k
    obtain ⟨v1, v2, e, ⟨la, vs, e1, h1, h2⟩, h3⟩ := rep1L_2 rp
    cases e
    rw [rep1_int] at h3
    subst e1 h3
    cases rx
    obtain ⟨tk, rfl⟩ := ry
    obtain ⟨its, r, ⟨⟨c1, d1, dt1, sl1⟩, n, e, e1, e2, e3⟩, z⟩ := I.list h1
    simp only at e1 e2 e3
    subst e1 e2 e3
    have hl := r.length
    have hL := h2.length
    obtain ⟨⟨b1, b2, b3⟩, hq⟩ := ho
    have hsz : its.toArray.size * k.toNat ≤ 2 ^ 24 := by rw [List.size_toArray, ← hl, ← hL]; exact b3
    refine wpAny_binaryOp_repeat_ref (T := "list") (U := "int") (by decide) ⟨_, e, rfl⟩ (fun s' => typeIs_int s' k tk) noFill_list_mul F.fills_int_mul F.slot_int_rmul repeat_list F.slot_int_index.lookup
      (call_meets F.slot_int_rmul (typeIs_int s k tk) F.entry_int_rmul (F.args_int_rmul_2 _ _) (lm_int_rmul_list_any k tk la its.toArray n _ _)
        ⟨e, rfl, ⟨_, e, rfl⟩, call_meets F.slot_list_mul ⟨_, e, rfl⟩ F.entry_list_mul (F.args_list_mul_2 _ _)
          (lm_list_mul_any la its.toArray n _ _ k tk (by simp [Builtin.List.listFitsIndex]; omega) (by omega) (by simp [Builtin.List.listTooLong, sizeLine]; omega)) ⟨e, ?_⟩⟩)
    rw [PyProof.Rows.listMul_foldl_if]
    have hp := I.fresh
    have rv : Vals (List.replicate k.toNat vs).flatten (List.replicate k.toNat its).flatten := by
      have go : ∀ m : Nat, Vals (List.replicate m vs).flatten (List.replicate m its).flatten := by
        intro m
        induction m with
        | zero => exact .nil
        | succ m ih =>
          rw [List.replicate_succ, List.replicate_succ, List.flatten_cons, List.flatten_cons]
          exact r.append ih
      exact go _
    have hlen : (List.replicate k.toNat vs).flatten.length ≤ sizeLine := by
      have : (List.replicate k.toNat vs).flatten.length = k.toNat * vs.length := by simp
      rw [this, Nat.mul_comm, ← hL]; exact b3
    exact ⟨.ref _, _, I.lnew (t' := s.toks) rv hlen, rfl, ret_list l c hq (repL_rep h2 _) hp⟩
  · exact ho.elim
def opFdiv : OPD := opI2c CDiv fun a b => .int (a / b)
theorem os_fdiv {k : Nat} : OpR X (binaryOp .FloorDiv) fun x y => opS X.K k opFdiv [x, y] := by
  intro pins s σ H x y v u Q I rx ry ⟨G, ds, q, l, rp, ho, c⟩
  unfold opFdiv opI2c at ho
  split at ho
  · obtain ⟨v1, v2, e, h1, h2⟩ := rep1L_2 rp
    cases e
    rw [rep1_int] at h1 h2
    subst h1 h2
    exact op_fdiv pins s σ H _ _ v u Q I rx ry ⟨_, _, rfl, rfl, ho.1, ret_int l c ho.2⟩
  · exact ho.elim
def opMod : OPD := opI2c (fun _ b => 0 < b) fun a b => .int (a % b)
theorem os_mod {k : Nat} : OpR X (binaryOp .Mod) fun x y => opS X.K k opMod [x, y] := by
  intro pins s σ H x y v u Q I rx ry ⟨G, ds, q, l, rp, ho, c⟩
  unfold opMod opI2c at ho
  split at ho
  · obtain ⟨v1, v2, e, h1, h2⟩ := rep1L_2 rp
    cases e
    rw [rep1_int] at h1 h2
    subst h1 h2
    exact op_mod pins s σ H _ _ v u Q I rx ry ⟨_, _, rfl, rfl, ho.1, ret_int l c ho.2⟩
  · exact ho.elim
def opPow : OPD := opI2c CPow fun a b => .int (a ^ b.toNat)
theorem os_pow {k : Nat} : OpR X (binaryOp .Pow) fun x y => opS X.K k opPow [x, y] := by
  intro pins s σ H x y v u Q I rx ry ⟨G, ds, q, l, rp, ho, c⟩
  unfold opPow opI2c at ho
  split at ho
  · obtain ⟨v1, v2, e, h1, h2⟩ := rep1L_2 rp
    cases e
    rw [rep1_int] at h1 h2
    subst h1 h2
    exact op_pow pins s σ H _ _ v u Q I rx ry ⟨_, _, rfl, rfl, ho.1, ret_int l c ho.2⟩
  · exact ho.elim
def opNeg : OPD
  | [.int a], q => q (.int (-a))
  | _, _ => False
theorem os_neg {k : Nat} : UnR X (unaryOp .USub) fun x => opS X.K k opNeg [x] := by
  intro pins s σ H x v Q I rx ⟨G, ds, q, l, rp, ho, c⟩
  unfold opNeg at ho
  split at ho
  · obtain ⟨v1, e, h1⟩ := rep1L_1 rp
    cases e
    rw [rep1_int] at h1
    subst h1
    exact un_neg pins s σ H _ v Q I rx ⟨_, rfl, ret_int l c ho⟩
  · exact ho.elim
theorem is_add : PIp X .Add fun x y => opS X.K 0 (opI2 fun a b => .int (a + b)) [x, y] := by
  intro pins s σ H x y v u Q I rx ry ⟨G, ds, q, l, rp, ho, c⟩
  unfold opI2 at ho
  split at ho
  · obtain ⟨v1, v2, e, h1, h2⟩ := rep1L_2 rp
    cases e
    rw [rep1_int] at h1 h2
    subst h1 h2
    exact ip_add pins s σ H _ _ v u Q I rx ry ⟨_, _, rfl, rfl, ret_int l c ho⟩
  · exact ho.elim
theorem is_sub : PIp X .Sub fun x y => opS X.K 0 (opI2 fun a b => .int (a - b)) [x, y] := by
  intro pins s σ H x y v u Q I rx ry ⟨G, ds, q, l, rp, ho, c⟩
  unfold opI2 at ho
  split at ho
  · obtain ⟨v1, v2, e, h1, h2⟩ := rep1L_2 rp
    cases e
    rw [rep1_int] at h1 h2
    subst h1 h2
    exact ip_sub pins s σ H _ _ v u Q I rx ry ⟨_, _, rfl, rfl, ret_int l c ho⟩
  · exact ho.elim
end
end VL

/-! VL10: comparisons, items, slices, built-ins -/
namespace VL
open PySem L2

/-! ### data are read by the model -/
section
variable {X : Cx} {pins : List (Addr × Obj)} {σ : L2.St} {H : Hp} {s : Shared}
theorem reads_key {k : Key} {u : Value} (h : keyIs k u = true) : Reads s.heap u (keyD k) [] := by
  rcases keyIs_shape h with ⟨i, tk, rfl, rfl⟩ | ⟨x, tk, rfl, rfl⟩
  · exact .int i tk
  · exact .str x tk
theorem kv_keys : ∀ {q : List Key} {vs : List V} {kvs : List (Key × Value)} {es : List DictEntry}, q.length = vs.length → KV (q.zip vs) kvs → PySem.Pairs (mixKind X.prog X.w) es kvs →
    ReadsAll s.heap (es.map (·.key)) (q.map keyD) [] ∧ Vals vs (es.map (·.val))
  | [], [], _, _, _, .nil, .nil => ⟨.nil, .nil⟩
  | [], _ :: _, _, _, e, _, _ => by simp at e
  | _ :: _, [], _, _, e, _, _ => by simp at e
  | k :: q, v :: vs, _, _, e, .cons h t, .cons hk hv tp => by
    obtain ⟨h1, h2⟩ := kv_keys (by simpa using e) t tp
    obtain ⟨e1, r1⟩ := h
    exact ⟨ReadsAll.cons (as := []) (bs := []) (reads_key (by rw [show k = _ from e1]; exact hk)) h1, .cons (by have z := r1; rw [← hv] at z; exact z) h2⟩
def unmarked : List (D × D) → Bool
  | (.none, _) :: _ => false
  | _ => true
mutual
/-- no dict with tuples as keys -/
def noMark : D → Bool
  | .list ds => noMarks ds
  | .tuple ds => noMarks ds
  | .dict kvs => unmarked kvs && noMarkKv kvs
  | _ => true
def noMarks : List D → Bool
  | [] => true
  | d :: ds => noMark d && noMarks ds
def noMarkKv : List (D × D) → Bool
  | [] => true
  | (_, d) :: ds => noMark d && noMarkKv ds
end
mutual
theorem noMark_lay : ∀ d : D, d.canLay0 = true → noMark d = true
  | .none, _ => by simp only [noMark]
  | .bool _, _ => by simp only [noMark]
  | .int _, _ => by simp only [noMark]
  | .str _, _ => by simp only [noMark]
  | .list ds, h => by rw [noMark]; rw [PyData.canLay0] at h; exact noMarks_lay ds h
  | .tuple ds, h => by rw [noMark]; rw [PyData.canLay0] at h; exact noMarks_lay ds h
  | .dict _, h => by rw [PyData.canLay0] at h; cases h
theorem noMarks_lay : ∀ ds : List D, PyData.canLayAll0 ds = true → noMarks ds = true
  | [], _ => by simp only [noMarks]
  | d :: ds, h => by
    rw [PyData.canLayAll0, Bool.and_eq_true] at h
    rw [noMarks, noMark_lay d h.1, noMarks_lay ds h.2]; rfl
end
mutual
theorem noMark_hd : ∀ d : D, d.hasDict = false → noMark d = true
  | .none, _ => by simp only [noMark]
  | .bool _, _ => by simp only [noMark]
  | .int _, _ => by simp only [noMark]
  | .str _, _ => by simp only [noMark]
  | .list ds, h => by rw [noMark]; rw [PyData.hasDict] at h; exact noMarks_hd ds h
  | .tuple ds, h => by rw [noMark]; rw [PyData.hasDict] at h; exact noMarks_hd ds h
  | .dict _, h => by rw [PyData.hasDict] at h; cases h
theorem noMarks_hd : ∀ ds : List D, PyData.hasDictAll ds = false → noMarks ds = true
  | [], _ => by simp only [noMarks]
  | d :: ds, h => by
    rw [PyData.hasDictAll, Bool.or_eq_false_iff] at h
    rw [noMarks, noMark_hd d h.1, noMarks_hd ds h.2]; rfl
end
mutual
theorem Rep.reads (I : L2.Inv X pins σ H s) : ∀ (d : D) (v : V) (u : Value), noMark d = true → Rep X.K H d v → RelV v u → ∃ as, Reads s.heap u d as
  | .none, _, _, _, h, r => by rw [Rep] at h; subst h; cases r; exact ⟨_, .none⟩
  | .bool b, _, _, _, h, r => by rw [Rep] at h; subst h; cases r; exact ⟨_, .bool b⟩
  | .int i, _, _, _, h, r => by rw [Rep] at h; subst h; obtain ⟨t, rfl⟩ := r; exact ⟨_, .int i t⟩
  | .str x, _, _, _, h, r => by rw [Rep] at h; subst h; obtain ⟨t, rfl⟩ := r; exact ⟨_, .str x t⟩
  | .list ds, _, _, hm, h, r => by
    rw [noMark] at hm
    rw [Rep] at h
    obtain ⟨a, vs, rfl, hs, ha⟩ := h
    cases r
    obtain ⟨its, rv, ⟨o, n, ho, hc, _, hd⟩, _⟩ := I.list hs
    obtain ⟨as, hr⟩ := RepL.reads I ds vs its hm ha rv
    exact ⟨_, .list ho hc hd hr⟩
  | .tuple ds, _, _, hm, h, r => by
    rw [noMark] at hm
    rw [Rep] at h
    obtain ⟨a, vs, rfl, hs, ha⟩ := h
    cases r
    obtain ⟨its, rv, ⟨o, ho, hc, n, hd⟩, _⟩ := I.tuple (SqT.of hs)
    obtain ⟨as, hr⟩ := RepL.reads I ds vs its hm ha rv
    exact ⟨_, .tuple ho hc hd hr⟩
  | .dict kvs, _, _, hm, h, r => by
    rw [noMark] at hm
    rw [Rep] at h
    obtain ⟨a, vs, rfl, hs, ha⟩ := h
    cases r
    rw [Bool.and_eq_true] at hm
    rcases hs with ⟨q, e1, e2, hr⟩ | ⟨q, us, e1, e2, hr⟩
    · obtain ⟨_, _, us, kv, o, es, ep, ho, hx, hd, _, hp, _⟩ := hr.ok I.hok
      obtain ⟨k1, k2⟩ := kv_keys (X := X) (s := s) e2 kv hp
      obtain ⟨bs, hb⟩ := RepKV.reads I kvs vs _ hm.2 ha k2
      exact ⟨_, .dict ho hx.1 hd (by rw [e1]; exact k1) hb⟩
    · exfalso
      cases kvs with
      | nil => simp at e1
      | cons p kvs =>
        obtain ⟨a, b⟩ := p
        simp only [List.map_cons, List.cons.injEq] at e1
        rw [e1.1] at hm
        exact Bool.noConfusion hm.1
theorem RepL.reads (I : L2.Inv X pins σ H s) : ∀ (ds : List D) (vs : List V) (us : List Value), noMarks ds = true → RepL X.K H ds vs → Vals vs us → ∃ as, ReadsAll s.heap us ds as
  | [], _, _, _, h, r => by rw [RepL] at h; subst h; cases r; exact ⟨_, .nil⟩
  | d :: ds, _, _, hm, h, r => by
    rw [noMarks, Bool.and_eq_true] at hm
    rw [RepL] at h
    obtain ⟨v, vs, rfl, h1, h2⟩ := h
    cases r with
    | cons r1 r2 =>
      obtain ⟨as, q1⟩ := Rep.reads I d _ _ hm.1 h1 r1
      obtain ⟨bs, q2⟩ := RepL.reads I ds _ _ hm.2 h2 r2
      exact ⟨_, .cons q1 q2⟩
theorem RepKV.reads (I : L2.Inv X pins σ H s) : ∀ (ds : List (D × D)) (vs : List V) (us : List Value), noMarkKv ds = true → RepKV X.K H ds vs → Vals vs us → ∃ as, ReadsAll s.heap us (ds.map (·.2)) as
  | [], _, _, _, h, r => by rw [RepKV] at h; subst h; cases r; exact ⟨_, .nil⟩
  | (k, d) :: ds, _, _, hm, h, r => by
    rw [noMarkKv, Bool.and_eq_true] at hm
    rw [RepKV] at h
    obtain ⟨v, vs, rfl, h1, h2⟩ := h
    cases r with
    | cons r1 r2 =>
      obtain ⟨as, q1⟩ := Rep.reads I d _ _ hm.1 h1 r1
      obtain ⟨bs, q2⟩ := RepKV.reads I ds _ _ hm.2 h2 r2
      exact ⟨_, .cons q1 q2⟩
end
end

/-! ### ==, !=, is, order, in -/
section
variable {X : Cx} {k : Nat}
def opEq : OPD
  | [a, b], q => (SeqAt.shaped a = true ∧ SeqAt.shaped b = true) ∧ q (.bool (PyData.eqv a b))
  | _, _ => False
def opNe : OPD
  | [a, b], q => (SeqAt.shaped a = true ∧ SeqAt.shaped b = true) ∧ q (.bool (!PyData.eqv a b))
  | _, _ => False
theorem os_eq (hu : X.A.units + 64 < cLine) : OpR X (compareOp .Eq) fun x y => opS X.K k opEq [x, y] := by
  intro pins s σ H x y v u Q I rx ry ⟨G, ds, q, l, rp, ho, c⟩
  unfold opEq at ho
  split at ho
  · obtain ⟨v1, v2, e, h1, h2⟩ := rep1L_2 rp
    cases e
    obtain ⟨as, r1⟩ := Rep.reads I _ _ v (noMark_lay _ (SeqAt.canLay_of_shaped ho.1.1)) (h1.all l) rx
    obtain ⟨bs, r2⟩ := Rep.reads I _ _ u (noMark_lay _ (SeqAt.canLay_of_shaped ho.1.2)) (h2.all l) ry
    exact SeqAt.compareEq_shaped r1 r2 ho.1.1 ho.1.2 hu ⟨.bl _, H, I, rfl, ret_bool l c ho.2⟩
  · exact ho.elim
theorem os_ne (hu : X.A.units + 64 < cLine) : OpR X (compareOp .NotEq) fun x y => opS X.K k opNe [x, y] := by
  intro pins s σ H x y v u Q I rx ry ⟨G, ds, q, l, rp, ho, c⟩
  unfold opNe at ho
  split at ho
  · obtain ⟨v1, v2, e, h1, h2⟩ := rep1L_2 rp
    cases e
    obtain ⟨as, r1⟩ := Rep.reads I _ _ v (noMark_lay _ (SeqAt.canLay_of_shaped ho.1.1)) (h1.all l) rx
    obtain ⟨bs, r2⟩ := Rep.reads I _ _ u (noMark_lay _ (SeqAt.canLay_of_shaped ho.1.2)) (h2.all l) ry
    exact SeqAt.compareNe_shaped r1 r2 ho.1.1 ho.1.2 hu ⟨.bl _, H, I, rfl, ret_bool l c ho.2⟩
  · exact ho.elim
/-- is, of None and of truths -/
def opIs : OPD
  | [.none, .none], q => q (.bool true)
  | [.bool a, .bool b], q => q (.bool (decide (a = b)))
  | [_, .none], q => q (.bool false)
  | _, _ => False
def opIsNot : OPD
  | [.none, .none], q => q (.bool false)
  | [.bool a, .bool b], q => q (.bool (!decide (a = b)))
  | [_, .none], q => q (.bool true)
  | _, _ => False
theorem rep1_not_none {K : PySem.W.Frag} {H G : Hp} {d : D} {v : V} (r : Rep1 K H G d v) (h : d ≠ .none) : v ≠ .non := by
  cases d with
  | none => exact absurd rfl h
  | bool b => rw [rep1_bool] at r; rw [r]; intro z; cases z
  | int b => rw [rep1_int] at r; rw [r]; intro z; cases z
  | str b => rw [rep1_str] at r; rw [r]; intro z; cases z
  | list b => obtain ⟨a, vs, rfl, _⟩ := r; intro z; cases z
  | tuple b => obtain ⟨a, vs, rfl, _⟩ := rep1_tup.mp r; intro z; cases z
  | dict b => obtain ⟨a, vs, rfl, _⟩ := r; intro z; cases z
theorem os_is : OpR X (compareOp .Is) fun x y => opS X.K k opIs [x, y] := by
  intro pins s σ H x y v u Q I rx ry ⟨G, ds, q, l, rp, ho, c⟩
  unfold opIs at ho
  split at ho
  · obtain ⟨v1, v2, e, h1, h2⟩ := rep1L_2 rp
    cases e
    rw [rep1_none] at h1 h2
    subst h1 h2
    exact op_isN pins s σ H _ _ v u Q I rx ry ⟨rfl, ret_bool l c ho⟩
  · obtain ⟨v1, v2, e, h1, h2⟩ := rep1L_2 rp
    cases e
    rw [rep1_bool] at h1 h2
    subst h1 h2
    exact op_isBl pins s σ H _ _ v u Q I rx ry ⟨_, _, rfl, rfl, ret_bool l c ho⟩
  · rename_i d hn
    obtain ⟨v1, v2, e, h1, h2⟩ := rep1L_2 rp
    cases e
    rw [rep1_none] at h2
    subst h2
    have hd : d ≠ .none := fun z => by first | exact hn z rfl | exact hn z | (subst z; exact hn _ rfl rfl)
    refine op_isN pins s σ H _ _ v u Q I rx ry ⟨rfl, ?_⟩
    rw [decide_eq_false (rep1_not_none h1 hd)]
    exact ret_bool l c ho
  · exact ho.elim
theorem os_isNot : OpR X (compareOp .IsNot) fun x y => opS X.K k opIsNot [x, y] := by
  intro pins s σ H x y v u Q I rx ry ⟨G, ds, q, l, rp, ho, c⟩
  unfold opIsNot at ho
  split at ho
  · obtain ⟨v1, v2, e, h1, h2⟩ := rep1L_2 rp
    cases e
    rw [rep1_none] at h1 h2
    subst h1 h2
    exact op_notN pins s σ H _ _ v u Q I rx ry ⟨rfl, ret_bool l c ho⟩
  · obtain ⟨v1, v2, e, h1, h2⟩ := rep1L_2 rp
    cases e
    rw [rep1_bool] at h1 h2
    subst h1 h2
    exact op_notBl pins s σ H _ _ v u Q I rx ry ⟨_, _, rfl, rfl, ret_bool l c ho⟩
  · rename_i d hn
    obtain ⟨v1, v2, e, h1, h2⟩ := rep1L_2 rp
    cases e
    rw [rep1_none] at h2
    subst h2
    have hd : d ≠ .none := fun z => by first | exact hn z rfl | exact hn z | (subst z; exact hn _ rfl rfl)
    refine op_notN pins s σ H _ _ v u Q I rx ry ⟨rfl, ?_⟩
    rw [decide_eq_false (rep1_not_none h1 hd)]
    exact ret_bool l c ho
  · exact ho.elim
def opOrd (f : Int → Int → Bool) (g : Str → Str → Bool) : OPD
  | [.int a, .int b], q => q (.bool (f a b))
  | [.str a, .str b], q => q (.bool (g a b))
  | _, _ => False
def ltS (a b : Str) : Bool := decide (a.cps.toList < b.cps.toList)
def opLt : OPD := opOrd (fun a b => decide (a < b)) ltS
def opLe : OPD := opOrd (fun a b => decide (a ≤ b)) fun a b => !ltS b a
def opGt : OPD := opOrd (fun a b => decide (b < a)) fun a b => ltS b a
def opGe : OPD := opOrd (fun a b => decide (b ≤ a)) fun a b => !ltS a b
theorem os_ord {f : Int → Int → Bool} {g : Str → Str → Bool} {c : CmpOp} (h1 : OpR X (compareOp c) (rI0 fun i j => .bl (f i j))) (h2 : OpR X (compareOp c) (fun x y H Q => ∃ i j, x = .str i ∧ y = .str j ∧ Q (.bl (g i j)) H)) :
    OpR X (compareOp c) fun x y => opS X.K k (opOrd f g) [x, y] := by
  intro pins s σ H x y v u Q I rx ry ⟨G, ds, q, l, rp, ho, c⟩
  unfold opOrd at ho
  split at ho
  · obtain ⟨v1, v2, e, k1, k2⟩ := rep1L_2 rp
    cases e
    rw [rep1_int] at k1 k2
    subst k1 k2
    exact h1 pins s σ H _ _ v u Q I rx ry ⟨_, _, rfl, rfl, ret_bool l c ho⟩
  · obtain ⟨v1, v2, e, k1, k2⟩ := rep1L_2 rp
    cases e
    rw [rep1_str] at k1 k2
    subst k1 k2
    exact h2 pins s σ H _ _ v u Q I rx ry ⟨_, _, rfl, rfl, ret_bool l c ho⟩
  · exact ho.elim
theorem os_lt : OpR X (compareOp .Lt) fun x y => opS X.K k opLt [x, y] := os_ord op_lt op_lt_str
theorem os_le : OpR X (compareOp .LtE) fun x y => opS X.K k opLe [x, y] := os_ord op_le op_le_str
theorem os_gt : OpR X (compareOp .Gt) fun x y => opS X.K k opGt [x, y] := os_ord op_gt op_gt_str
theorem os_ge : OpR X (compareOp .GtE) fun x y => opS X.K k opGe [x, y] := os_ord op_ge op_ge_str
/-- in: a text in a text; a thing in a list or tuple -/
def inStr (a b : Str) : Bool := !(Builtin.Str.occurrences b a 0 b.length 1).isEmpty
def inSeq (d : D) (ds : List D) : Bool := ds.any fun z => PyData.eqv z d
theorem eqv_V {K : PySem.W.Frag} {G : Hp} {d e : D} {v w : V} (hd : VL.flat d = true) (he : VL.flat e = true) (r : Rep K G d v) (r' : Rep K G e w) : eqV v w = PyData.eqv d e := by
  cases d <;> cases e <;> first | (simp [VL.flat] at hd; done) | (simp [VL.flat] at he; done) | (rw [Rep] at r; rw [Rep] at r'; subst r; subst r'; simp [eqV, PyData.eqv])
theorem flat_V {K : PySem.W.Frag} {G : Hp} {d : D} {v : V} (hd : VL.flat d = true) (r : Rep K G d v) : flatV v = true := by
  cases d <;> first | (simp [VL.flat] at hd; done) | (rw [Rep] at r; subst r; rfl)
theorem flats_V {K : PySem.W.Frag} {G : Hp} : ∀ {ds : List D} {vs : List V}, ds.all VL.flat = true → RepL K G ds vs → vs.all flatV = true
  | [], _, _, r => by rw [RepL] at r; subst r; rfl
  | d :: ds, vs, h, r => by
    rw [RepL] at r
    obtain ⟨v, rr, rfl, h1, h2⟩ := r
    simp only [List.all_cons, Bool.and_eq_true] at h ⊢
    exact ⟨flat_V h.1 h1, flats_V h.2 h2⟩
theorem inSeq_V {K : PySem.W.Frag} {G : Hp} {d : D} {v : V} (hd : VL.flat d = true) (r : Rep K G d v) : ∀ {ds : List D} {vs : List V}, ds.all VL.flat = true → RepL K G ds vs → inV v vs = inSeq d ds
  | [], _, _, rl => by rw [RepL] at rl; subst rl; rfl
  | e :: ds, vs, h, rl => by
    rw [RepL] at rl
    obtain ⟨w, rr, rfl, h1, h2⟩ := rl
    simp only [List.all_cons, Bool.and_eq_true] at h
    have ih := inSeq_V hd r h.2 h2
    unfold inV inSeq at ih ⊢
    rw [List.any_cons, List.any_cons, ih, eqv_V h.1 hd h1 r]
def opIn (f : Bool → Bool) : OPD
  | [.str a, .str b], q => q (.bool (f (inStr a b)))
  | [d, .list ds], q => (flat d = true ∧ ds.all flat = true) ∧ q (.bool (f (inSeq d ds)))
  | [d, .tuple ds], q => (flat d = true ∧ ds.all flat = true) ∧ q (.bool (f (inSeq d ds)))
  | _, _ => False
theorem os_inG {c : CmpOp} {f : Bool → Bool} {n : Bool} (hn : ∀ b, (if n then !b else b) = f b) (h1 : OpR X (compareOp c) (fun x y H Q => ∃ i j, x = .str i ∧ y = .str j ∧ Q (.bl (f (inStr i j))) H)) (h2 : OpR X (compareOp c) (rIn X.K n)) :
    OpR X (compareOp c) fun x y => opS X.K k (opIn f) [x, y] := by
  intro pins s σ H x y v u Q I rx ry ⟨G, ds, q, l, rp, ho, c⟩
  unfold opIn at ho
  split at ho
  · obtain ⟨v1, v2, e, k1, k2⟩ := rep1L_2 rp
    cases e
    rw [rep1_str] at k1 k2
    subst k1 k2
    exact h1 pins s σ H _ _ v u Q I rx ry ⟨_, _, rfl, rfl, ret_bool l c ho⟩
  · obtain ⟨v1, v2, e, k1, ⟨a, vs, rfl, s1, r1⟩⟩ := rep1L_2 rp
    cases e
    refine h2 pins s σ H _ _ v u Q I rx ry ⟨a, vs, rfl, .inl s1, flat_V ho.1.1 (k1.flat ho.1.1), flats_V ho.1.2 r1, ?_⟩
    rw [hn, inSeq_V ho.1.1 (k1.flat ho.1.1) ho.1.2 r1]
    exact ret_bool l c ho.2
  · obtain ⟨v1, v2, e, k1, k2⟩ := rep1L_2 rp
    obtain ⟨a, vs, rfl, s1, r1⟩ := rep1_tup.mp k2
    cases e
    refine h2 pins s σ H _ _ v u Q I rx ry ⟨a, vs, rfl, .inr (SqT.of (l.tup s1)), flat_V ho.1.1 (k1.flat ho.1.1), flats_V ho.1.2 r1, ?_⟩
    rw [hn, inSeq_V ho.1.1 (k1.flat ho.1.1) ho.1.2 r1]
    exact ret_bool l c ho.2
  · exact ho.elim
theorem os_in : OpR X (compareOp .In) fun x y => opS X.K k (opIn id) [x, y] := os_inG (n := false) (fun _ => rfl) op_in_str op_in_seq
theorem os_notIn : OpR X (compareOp .NotIn) fun x y => opS X.K k (opIn (!·)) [x, y] := os_inG (n := true) (fun _ => rfl) L2.op_notIn_str op_notIn_seq

/-! ### items, slices -/
def opIx : OPD
  | [.list ds, .int i], q => ∃ d, atI ds i = some d ∧ q d
  | [.tuple ds, .int i], q => ∃ d, atI ds i = some d ∧ q d
  | [.str x, .int i], q => x.length ≤ sizeLine ∧ ∃ c, atI x.cps.toList i = some c ∧ q (.str ⟨#[c]⟩)
  | _, _ => False
theorem atI_rep {K : PySem.W.Frag} {G : Hp} {ds : List D} {vs : List V} (h : RepL K G ds vs) {i : Int} {d : D} (e : atI ds i = some d) : ∃ v, atI vs i = some v ∧ Rep K G d v := by
  unfold atI at e ⊢
  rw [← h.length]
  cases hj : ixN ds.length i with
  | none => rw [hj] at e; cases e
  | some j =>
    rw [hj] at e
    exact h.get (show ds[j]? = some d from e)
theorem os_ix : IxR X fun x y => opS X.K 0 opIx [x, y] := by
  intro va sl pins s σ H x y v u Q I rx ry ⟨G, ds, q, l, rp, ho, c⟩ hs
  unfold opIx at ho
  split at ho
  · obtain ⟨v1, v2, e, ⟨a, vs, rfl, s1, r1⟩, k2⟩ := rep1L_2 rp
    cases e
    rw [rep1_int] at k2
    subst k2
    obtain ⟨d, h1, h2⟩ := ho
    obtain ⟨w, h3, h4⟩ := atI_rep r1 h1
    exact ix_list va sl pins s σ H _ _ v u Q I rx ry ⟨a, vs, _, w, rfl, rfl, s1, h3, ret_old l c h2 h4⟩ hs
  · obtain ⟨v1, v2, e, k1, k2⟩ := rep1L_2 rp
    obtain ⟨a, vs, rfl, s1, r1⟩ := rep1_tup.mp k1
    cases e
    rw [rep1_int] at k2
    subst k2
    obtain ⟨d, h1, h2⟩ := ho
    obtain ⟨w, h3, h4⟩ := atI_rep r1 h1
    exact ix_tup va sl pins s σ H _ _ v u Q I rx ry ⟨a, vs, _, w, rfl, rfl, SqT.of (l.tup s1), h3, ret_old l c h2 h4⟩ hs
  · obtain ⟨v1, v2, e, k1, k2⟩ := rep1L_2 rp
    cases e
    rw [rep1_str] at k1
    rw [rep1_int] at k2
    subst k1 k2
    obtain ⟨hz, d, h1, h2⟩ := ho
    exact ix_str va sl pins s σ H _ _ v u Q I rx ry ⟨_, _, d, rfl, rfl, hz, h1, ret_str l c h2⟩ hs
  · exact ho.elim
def cutD {α : Type} (xs : List α) (lo hi : Option Int) : List α := (xs.drop (HT.sIx xs.length 0 lo)).take (HT.sIx xs.length xs.length hi - HT.sIx xs.length 0 lo)
/-- a tuple's slice: not the whole -/
def opSl (lo hi : Option Int) : OPD
  | [.list ds], q => q (.list (cutD ds lo hi))
  | [.str x], q => x.length ≤ sizeLine ∧ q (.str (cutS x lo hi))
  | _, _ => False
theorem os_slice : SlR X fun x lo hi => opS X.K 1 (opSl lo hi) [x] := by
  intro pins s σ H x v vl vu lo hi sl Q I rx hs pl pu ⟨G, ds, q, l, rp, ho, c⟩
  unfold opSl at ho
  split at ho
  · obtain ⟨v1, e, ⟨a, vs, rfl, s1, r1⟩⟩ := rep1L_1 rp
    cases e
    refine sl_list pins s σ H _ v vl vu lo hi sl Q I rx hs pl pu ⟨a, vs, rfl, s1, fun p hp => ret_list l c ho ?_ hp⟩
    unfold cutD cutV
    rw [r1.length]
    exact (r1.drop _).take _
  · obtain ⟨v1, e, k1⟩ := rep1L_1 rp
    cases e
    rw [rep1_str] at k1
    subst k1
    exact sl_str pins s σ H _ v vl vu lo hi sl Q I rx hs pl pu ⟨_, rfl, ho.1, ret_str l c ho.2⟩
  · exact ho.elim
end
end VL

/-! VL11: built-ins by name, methods of texts -/
namespace VL
open PySem L2

section
variable {X : Cx} {k : Nat}
def opLen : OPD
  | [.str x], q => x.length ≤ sizeLine ∧ q (.int x.length)
  | [.list ds], q => q (.int ds.length)
  | [.tuple ds], q => q (.int ds.length)
  | _, _ => False
theorem os_len : CallR X (.builtin "len") (opS X.K k opLen) := by
  intro pins s σ H xs us Q I r ⟨G, ds, q, l, rp, ho, c⟩
  unfold opLen at ho
  split at ho
  · obtain ⟨v1, rfl, h1⟩ := rep1L_1 rp
    rw [rep1_str] at h1
    subst h1
    exact call_len_str pins s σ H _ us Q I r ⟨_, rfl, ho.1, ret_int l c ho.2⟩
  · obtain ⟨v1, rfl, ⟨a, vs, rfl, h1, h2⟩⟩ := rep1L_1 rp
    exact call_len_seq pins s σ H _ us Q I r ⟨a, vs, rfl, .inl h1, by rw [← h2.length]; exact ret_int l c ho⟩
  · obtain ⟨v1, rfl, h0⟩ := rep1L_1 rp
    obtain ⟨a, vs, rfl, h1, h2⟩ := rep1_tup.mp h0
    exact call_len_seq pins s σ H _ us Q I r ⟨a, vs, rfl, .inr (SqT.of (l.tup h1)), by rw [← h2.length]; exact ret_int l c ho⟩
  · exact ho.elim
def opInt : OPD
  | [.int i], q => q (.int i)
  | [.bool b], q => q (.int (if b then 1 else 0))
  | [.str x], q => ∃ n, PySem.intText? x = some n ∧ x.length ≤ 640 ∧ q (.int n)
  | _, _ => False
theorem os_int : CallR X (.type "int") (opS X.K k opInt) := by
  intro pins s σ H xs us Q I r ⟨G, ds, q, l, rp, ho, c⟩
  unfold opInt at ho
  split at ho
  · obtain ⟨v1, rfl, h1⟩ := rep1L_1 rp
    rw [rep1_int] at h1
    subst h1
    exact call_int1 pins s σ H _ us Q I r (.inl ⟨_, rfl, ret_int l c ho⟩)
  · obtain ⟨v1, rfl, h1⟩ := rep1L_1 rp
    rw [rep1_bool] at h1
    subst h1
    exact call_int1 pins s σ H _ us Q I r (.inr ⟨_, rfl, ret_int l c ho⟩)
  · obtain ⟨v1, rfl, h1⟩ := rep1L_1 rp
    rw [rep1_str] at h1
    subst h1
    obtain ⟨n, h2, h3, h4⟩ := ho
    exact call_int_str pins s σ H _ us Q I r ⟨_, n, rfl, h2, h3, ret_int l c h4⟩
  · exact ho.elim
def opAbs : OPD
  | [.int i], q => q (.int (if i < 0 then -i else i))
  | _, _ => False
theorem os_abs : CallR X (.builtin "abs") (opS X.K k opAbs) := by
  intro pins s σ H xs us Q I r ⟨G, ds, q, l, rp, ho, c⟩
  unfold opAbs at ho
  split at ho
  · obtain ⟨v1, rfl, h1⟩ := rep1L_1 rp
    rw [rep1_int] at h1
    subst h1
    exact call_abs pins s σ H _ us Q I r ⟨_, rfl, ret_int l c ho⟩
  · exact ho.elim
def intsOf : List D → Option (List Int)
  | [] => some []
  | .int i :: ds => (intsOf ds).map (i :: ·)
  | _ => none
theorem intsOf_eq : ∀ {ds : List D} {ns : List Int}, intsOf ds = some ns → ds = ns.map .int
  | [], ns, h => by cases h; rfl
  | d :: ds, ns, h => by
    cases d with
    | int i =>
      unfold intsOf at h
      obtain ⟨ms, h1, rfl⟩ := Option.map_eq_some_iff.mp h
      rw [intsOf_eq h1]; rfl
    | _ => cases h
theorem intsOf_map : ∀ ns : List Int, intsOf (ns.map .int) = some ns
  | [] => rfl
  | n :: ns => by unfold intsOf; rw [List.map_cons]; simp [intsOf_map ns]
/-- two ints, or a list of ints -/
def opMax : OPD
  | [.int i, .int j], q => q (.int (if j > i then j else i))
  | [.list ds], q => ∃ ns, intsOf ds = some ns ∧ 0 < ns.length ∧ ∀ m, m ∈ ns → (∀ y, y ∈ ns → y ≤ m) → q (.int m)
  | _, _ => False
def opMin : OPD
  | [.int i, .int j], q => q (.int (if j < i then j else i))
  | [.list ds], q => ∃ ns, intsOf ds = some ns ∧ 0 < ns.length ∧ ∀ m, m ∈ ns → (∀ y, y ∈ ns → m ≤ y) → q (.int m)
  | _, _ => False
theorem os_max (hc : X.calm = true) : CallR X (.builtin "max") (opS X.K k opMax) := by
  intro pins s σ H xs us Q I r ⟨G, ds, q, l, rp, ho, c⟩
  unfold opMax at ho
  split at ho
  · obtain ⟨v1, v2, rfl, h1, h2⟩ := rep1L_2 rp
    rw [rep1_int] at h1 h2
    subst h1 h2
    exact call_max2 hc pins s σ H _ us Q I r ⟨_, _, rfl, ret_int l c ho⟩
  · obtain ⟨v1, rfl, ⟨a, vs, rfl, h1, h2⟩⟩ := rep1L_1 rp
    obtain ⟨ns, e, h3, h4⟩ := ho
    rw [intsOf_eq e] at h2
    rw [repL_ints' h2] at h1
    exact cr_max hc pins s σ H _ us Q I r ⟨a, ns, rfl, h1, h3, fun m h5 h6 => ret_int l c (h4 m h5 h6)⟩
  · exact ho.elim
theorem os_min (hc : X.calm = true) : CallR X (.builtin "min") (opS X.K k opMin) := by
  intro pins s σ H xs us Q I r ⟨G, ds, q, l, rp, ho, c⟩
  unfold opMin at ho
  split at ho
  · obtain ⟨v1, v2, rfl, h1, h2⟩ := rep1L_2 rp
    rw [rep1_int] at h1 h2
    subst h1 h2
    exact call_min2 hc pins s σ H _ us Q I r ⟨_, _, rfl, ret_int l c ho⟩
  · obtain ⟨v1, rfl, ⟨a, vs, rfl, h1, h2⟩⟩ := rep1L_1 rp
    obtain ⟨ns, e, h3, h4⟩ := ho
    rw [intsOf_eq e] at h2
    rw [repL_ints' h2] at h1
    exact cr_min hc pins s σ H _ us Q I r ⟨a, ns, rfl, h1, h3, fun m h5 h6 => ret_int l c (h4 m h5 h6)⟩
  · exact ho.elim
def opSum : OPD
  | [.list ds], q => ∃ ns, intsOf ds = some ns ∧ q (.int ns.sum)
  | _, _ => False
theorem os_sum (hc : X.calm = true) : CallR X (.builtin "sum") (opS X.K k opSum) := by
  intro pins s σ H xs us Q I r ⟨G, ds, q, l, rp, ho, c⟩
  unfold opSum at ho
  split at ho
  · obtain ⟨v1, rfl, ⟨a, vs, rfl, h1, h2⟩⟩ := rep1L_1 rp
    obtain ⟨ns, e, h4⟩ := ho
    rw [intsOf_eq e] at h2
    rw [repL_ints' h2] at h1
    exact cr_sum hc pins s σ H _ us Q I r ⟨a, ns, rfl, h1, ret_int l c h4⟩
  · exact ho.elim
/-- list(x), tuple(x) of a list or tuple -/
def opList : OPD
  | [.list ds], q => q (.list ds)
  | [.tuple ds], q => q (.list ds)
  | _, _ => False
theorem os_list : CallR X (.type "list") (opS X.K 1 opList) := by
  intro pins s σ H xs us Q I r ⟨G, ds, q, l, rp, ho, c⟩
  unfold opList at ho
  split at ho
  · obtain ⟨v1, rfl, ⟨a, vs, rfl, h1, h2⟩⟩ := rep1L_1 rp
    exact call_list_of pins s σ H _ us Q I r ⟨a, vs, rfl, .inl h1, fun p hp => ret_list l c ho h2 hp⟩
  · obtain ⟨v1, rfl, h0⟩ := rep1L_1 rp
    obtain ⟨a, vs, rfl, h1, h2⟩ := rep1_tup.mp h0
    exact call_list_of pins s σ H _ us Q I r ⟨a, vs, rfl, .inr (SqT.of (l.tup h1)), fun p hp => ret_list l c ho h2 hp⟩
  · exact ho.elim
def opTuple : OPD
  | [.list ds], q => q (.tuple ds)
  | _, _ => False
theorem os_tuple : CallR X (.type "tuple") (opS X.K 1 opTuple) := by
  intro pins s σ H xs us Q I r ⟨G, ds, q, l, rp, ho, c⟩
  unfold opTuple at ho
  split at ho
  · obtain ⟨v1, rfl, ⟨a, vs, rfl, h1, h2⟩⟩ := rep1L_1 rp
    exact call_tuple_of pins s σ H _ us Q I r ⟨a, vs, rfl, .inl ⟨h1, fun p hp => ret_tup l c ho h2 hp⟩⟩
  · exact ho.elim
def opStr : OPD
  | [.int i], q => i.natAbs.log2 < 1920 ∧ q (.str (toString i))
  | [.str x], q => q (.str x)
  | _, _ => False
theorem os_str : CallR X (.type "str") (opS X.K k opStr) := by
  intro pins s σ H xs us Q I r ⟨G, ds, q, l, rp, ho, c⟩
  unfold opStr at ho
  split at ho
  · obtain ⟨v1, rfl, h1⟩ := rep1L_1 rp
    rw [rep1_int] at h1
    subst h1
    exact call_str_int pins s σ H _ us Q I r ⟨_, rfl, ho.1, ret_str l c ho.2⟩
  · obtain ⟨v1, rfl, h1⟩ := rep1L_1 rp
    rw [rep1_str] at h1
    subst h1
    exact SkE.call_str_str pins s σ H _ us Q I r ⟨_, rfl, ret_str l c ho⟩
  · exact ho.elim
/-- repr of data without dicts -/
def opRepr : OPD
  | [d], q => (d.showable = true ∧ d.hasDict = false ∧ d.depth ≤ 60 ∧ d.shown.length ≤ sizeLine) ∧ q (.str d.shown)
  | _, _ => False
theorem os_repr (hg : X.A.guards = some []) (hu : X.A.units + 64 < cLine) : CallR X (.builtin "repr") (opS X.K k opRepr) := by
  intro pins s σ H xs us Q I r ⟨G, ds, q, l, rp, ho, c⟩
  unfold opRepr at ho
  split at ho
  · rename_i d
    obtain ⟨v1, rfl, h1⟩ := rep1L_1 rp
    obtain ⟨⟨z1, z2, z3, z4⟩, hq⟩ := ho
    obtain ⟨u, rfl, ru⟩ := r.one
    have big : ∀ a : Addr, V.ref a = v1 → wpAny (model X.prog X.w) X.A (PySem.call (.builtin "repr") [u]) (EP X pins σ Q) X.xe s := fun a e => by
      subst e
      cases ru
      obtain ⟨as, rd⟩ := Rep.reads I d _ _ (noMark_hd d z2) (h1.all l) (rfl : RelV (.ref a) (.ref a))
      exact repr_of_reads' rd z1 (fun z => by rw [z2] at z; cases z) hg (by omega) (fun _ _ e => e) (fun h' t tk hk => ⟨.str _, H, I.kept hk, ⟨_, rfl⟩, ret_str l c hq⟩) z4
    cases d with
    | none =>
      rw [rep1_none] at h1
      subst h1
      cases ru
      simp only [PyData.shown] at hq
      exact PySem.P.repr_of_none ⟨.str _, H, I.tok _, ⟨_, rfl⟩, ret_str l c hq⟩
    | bool b =>
      rw [rep1_bool] at h1
      subst h1
      cases ru
      simp only [PyData.shown] at hq
      exact PySem.P.repr_of_bool ⟨.str _, H, I.tok _, ⟨_, rfl⟩, ret_str l c hq⟩
    | int i =>
      rw [rep1_int] at h1
      subst h1
      obtain ⟨t, rfl⟩ := ru
      simp only [PyData.shown] at hq
      exact PySem.P.repr_of_int (by simpa [PyData.showable] using z1) ⟨.str _, H, I.tok _, ⟨_, rfl⟩, ret_str l c hq⟩
    | str x =>
      rw [rep1_str] at h1
      subst h1
      obtain ⟨t, rfl⟩ := ru
      simp only [PyData.shown] at hq z4
      exact PySem.P.repr_of_str ⟨.str _, H, I.tok _, ⟨_, rfl⟩, ret_str l c hq⟩ z4
    | list ds => obtain ⟨a, vs, e, _⟩ := h1; exact big a e.symm
    | tuple ds => obtain ⟨a, vs, e, _⟩ := rep1_tup.mp h1; exact big a e.symm
    | dict ds => obtain ⟨a, vs, e, _⟩ := h1; exact big a e.symm
  · exact ho.elim
/-- the name of a datum's type -/
def tyName : D → String
  | .none => "NoneType"
  | .bool _ => "bool"
  | .int _ => "int"
  | .str _ => "str"
  | .list _ => "list"
  | .tuple _ => "tuple"
  | .dict _ => "dict"
def isTy (T : String) (d : D) : Bool := tyName d == T || (T == "int" && tyName d == "bool")
/-- isinstance(x, T) -/
def opIsi (T : String) : OPD
  | [d], q => q (.bool (isTy T d))
  | _, _ => False
theorem kit_d {pins : List (Addr × Obj)} {σ : L2.St} {H G : Hp} {s : Shared} {d : D} {x : V} {u : Value} (I : L2.Inv X pins σ H s) (l : Le G H) (rx : RelV x u) (r : Rep1 X.K H G d x) : ∃ P : Heap → Prop, PySem.W.KitX X.K u (.type (tyName d)) P ∧ P s.heap ∧ u ≠ .builtin "__main__.__loader__#opaque" := by
  cases d with
  | none => rw [rep1_none] at r; subst r; cases rx; exact ⟨_, PySem.W.kitx_none, True.intro, fun z => nomatch z⟩
  | bool b => rw [rep1_bool] at r; subst r; cases rx; exact ⟨_, PySem.W.kitx_bool, True.intro, fun z => nomatch z⟩
  | int b => rw [rep1_int] at r; subst r; obtain ⟨t, rfl⟩ := rx; exact ⟨_, PySem.W.kitx_int, True.intro, fun z => nomatch z⟩
  | str b => rw [rep1_str] at r; subst r; obtain ⟨t, rfl⟩ := rx; exact ⟨_, PySem.W.kitx_str, True.intro, fun z => nomatch z⟩
  | list ds =>
    obtain ⟨a, vs, rfl, h, _⟩ := r
    cases rx
    obtain ⟨its, _, ⟨o, n, e, c, _, _⟩, _⟩ := I.list h
    exact ⟨_, PySem.W.kitx_list, ⟨o, e, c⟩, fun z => nomatch z⟩
  | tuple ds =>
    obtain ⟨a, vs, rfl, h, _⟩ := rep1_tup.mp r
    cases rx
    obtain ⟨its, _, ⟨o, e, c, _⟩, _⟩ := I.tuple (SqT.of (l.tup h))
    exact ⟨_, PySem.W.kitx_tuple, ⟨o, e, c⟩, fun z => nomatch z⟩
  | dict kvs =>
    obtain ⟨a, vs, rfl, h, _⟩ := r
    cases rx
    have hd : IsD H a := by
      rcases h with ⟨q, _, _, h⟩ | ⟨q, _, _, _, _, h⟩
      · exact .inl ⟨_, h⟩
      · exact .inr ⟨_, h⟩
    obtain ⟨o, e, c⟩ := (isD_at I hd).1
    exact ⟨_, PySem.W.kitx_dict, ⟨o, e, c⟩, fun z => nomatch z⟩
theorem kit_all {K : PySem.W.Frag} (d : D) (T : String) (hT : T = "int" ∨ T = "str" ∨ T = "bool" ∨ T = "list" ∨ T = "tuple" ∨ T = "dict") : PySem.W.kitOne K (.type (tyName d)) (.type T) = some (isTy T d) := by
  rcases hT with rfl | rfl | rfl | rfl | rfl | rfl <;> cases d <;> rfl
theorem call_isiD {T : String} (hT : T = "int" ∨ T = "str" ∨ T = "bool" ∨ T = "list" ∨ T = "tuple" ∨ T = "dict") : CallR X (.builtin "isinstance") (fun xs H Q => ∃ x, xs = [x, .ty T] ∧ opS X.K k (opIsi T) [x] H Q) := by
  intro pins s σ H xs us Q I r ⟨x, e, G, ds, q, l, rp, ho, c⟩
  subst e
  unfold opIsi at ho
  split at ho
  · rename_i d
    obtain ⟨v1, e, h1⟩ := rep1L_1 rp
    cases e
    obtain ⟨u1, u2, rfl, r1, r2⟩ := r.two
    obtain rfl : u2 = Value.type T := r2
    obtain ⟨P, Z, p, hx⟩ := kit_d I l r1 h1
    exact PySem.W.kia_one Z I.kIn p (kit_all d T hT) hx fun tk => ⟨.bl _, H, I.tok tk, rfl, ret_bool l c ho⟩
  · exact ho.elim
theorem ve_isi {W : WX} {ex : Expr} {y : Str} {p p2 pos : Pos} {T : String} {o : Om} {t : VTE} (hT : T = "int" ∨ T = "str" ∨ T = "bool" ∨ T = "list" ∨ T = "tuple" ∨ T = "dict") (hg : Gl X "isinstance") (hm : X.mg "isinstance" = none)
    (hg2 : Gl X y) (hm2 : X.mg y = none) (hv2 : bootBuiltins y = some (.type T)) (ho : VO X W ex o t) (hn : y ≠ "__name__" := by decide) (hd : (y == ("__debug__" : Str)) = false := by decide)
    (he : starEach [ex, .Name y p2] X.env = (false, eval ex X.env) :: starEach [.Name y p2] X.env := by rfl) (he2 : starEach [.Name y p2] X.env = (false, eval (.Name y p2) X.env) :: starEach [] X.env := by rfl) (hpl : (backTo pos (starEach [.Name y p2] X.env)).any (·.1) = false := by rfl) :
    VE X W k (.Call (.Name "isinstance" p) [ex, .Name y p2] [] pos) (vApp [o] (vCons t vNil) (opIsi T)) :=
  ⟨PE.imp (pe_callB (call_isiD hT) hg hm (by decide +kernel) (pa_cons ho.run (pa_cons (pe_bltn (v := .ty T) hg2 hm2 hv2 rfl hn hd) pa_nil he2) he) (by decide) (by decide) he hpl) fun σ H Q q =>
    tO.mono (app1 ho.sk q) fun v H1 q => ⟨v, rfl, q⟩⟩
end
end VL

/-! VL12: methods of texts, dicts read -/
namespace VL
open PySem L2

/-! ### methods of texts -/
section
variable {X : Cx} {k : Nat}
def opFind : OPD
  | [.str a, .str b], q => q (.int (Txt.find a b))
  | _, _ => False
theorem os_find : MtR X "str.find" fun x xs => opS X.K k opFind (x :: xs) := by
  intro pins s σ H x xs v us Q I rx rxs ⟨G, ds, q, l, rp, ho, c⟩
  unfold opFind at ho
  split at ho
  · obtain ⟨v1, v2, e, h1, h2⟩ := rep1L_2 rp
    cases e
    rw [rep1_str] at h1 h2
    subst h1 h2
    exact mt_find pins s σ H _ _ v us Q I rx rxs ⟨_, _, rfl, rfl, ret_int l c ho⟩
  · exact ho.elim
def opUpper : OPD
  | [.str a], q => a.length ≤ 5592405 ∧ q (.str (Txt.upper a))
  | _, _ => False
theorem os_upper : MtR X "str.upper" fun x xs => opS X.K k opUpper (x :: xs) := by
  intro pins s σ H x xs v us Q I rx rxs ⟨G, ds, q, l, rp, ho, c⟩
  unfold opUpper at ho
  split at ho
  · obtain ⟨v1, e, h1⟩ := rep1L_1 rp
    cases e
    rw [rep1_str] at h1
    subst h1
    exact mt_upper pins s σ H _ _ v us Q I rx rxs ⟨_, rfl, rfl, ho.1, ret_str l c ho.2⟩
  · exact ho.elim
def strsOf : List D → Option (List Str)
  | [] => some []
  | .str i :: ds => (strsOf ds).map (i :: ·)
  | _ => none
theorem strsOf_eq : ∀ {ds : List D} {ns : List Str}, strsOf ds = some ns → ds = ns.map .str
  | [], ns, h => by cases h; rfl
  | d :: ds, ns, h => by
    cases d with
    | str i =>
      unfold strsOf at h
      obtain ⟨ms, h1, rfl⟩ := Option.map_eq_some_iff.mp h
      rw [strsOf_eq h1]; rfl
    | _ => cases h
theorem strsOf_map : ∀ ns : List Str, strsOf (ns.map .str) = some ns
  | [] => rfl
  | n :: ns => by unfold strsOf; rw [List.map_cons]; simp [strsOf_map ns]
def opJoin : OPD
  | [.str a, .list ds], q => ∃ ys, strsOf ds = some ys ∧ (ys.map (·.length)).sum + ys.length * a.length ≤ 16777216 ∧ q (.str (Txt.join a ys))
  | _, _ => False
theorem os_join : MtR X "str.join" fun x xs => opS X.K k opJoin (x :: xs) := by
  intro pins s σ H x xs v us Q I rx rxs ⟨G, ds, q, l, rp, ho, c⟩
  unfold opJoin at ho
  split at ho
  · obtain ⟨v1, v2, e, h1, ⟨a, vs, rfl, h2, h3⟩⟩ := rep1L_2 rp
    cases e
    rw [rep1_str] at h1
    subst h1
    obtain ⟨ys, e, hz, hq⟩ := ho
    rw [strsOf_eq e] at h3
    rw [repL_strs' h3] at h2
    exact mt_join pins s σ H _ _ v us Q I rx rxs ⟨_, a, ys, rfl, rfl, .inl h2, hz, ret_str l c hq⟩
  · exact ho.elim
def opSplit : OPD
  | [.str a, .str b], q => ((b.length == 0) = false ∧ a.length + 2 ≤ sizeLine) ∧ q (.list ((Txt.split a b).map .str))
  | _, _ => False
theorem os_split : MtR X "str.split" fun x xs => opS X.K 1 opSplit (x :: xs) := by
  intro pins s σ H x xs v us Q I rx rxs ⟨G, ds, q, l, rp, ho, c⟩
  unfold opSplit at ho
  split at ho
  · obtain ⟨v1, v2, e, h1, h2⟩ := rep1L_2 rp
    cases e
    rw [rep1_str] at h1 h2
    subst h1 h2
    exact mt_split pins s σ H _ _ v us Q I rx rxs ⟨_, _, rfl, rfl, ho.1.1, ho.1.2, fun p hp => ret_list l c ho.2 repL_strs hp⟩
  · exact ho.elim
end

/-! ### dicts -/
def keyOf : D → Option Key
  | .int i => some (.inl i)
  | .str x => some (.inr x)
  | _ => none
def keysOf : List D → Option (List Key)
  | [] => some []
  | d :: ds => (keyOf d).bind fun k => (keysOf ds).map (k :: ·)
/-- a key fits the dict -/
def kOk (kvs : List (D × D)) : D → Prop
  | .int _ => unmarked kvs = true
  | .str _ => unmarked kvs = true
  | .tuple ds => unmarked kvs = false ∧ (keysOf ds).isSome = true
  | _ => False
def lookD (kvs : List (D × D)) (key : D) : Option D := (kvs.find? fun p => PyData.eqv p.1 key).map (·.2)
def hasD (kvs : List (D × D)) (key : D) : Bool := (lookD kvs key).isSome
theorem keyOf_eq {d : D} {k : Key} (h : keyOf d = some k) : d = keyD k := by
  cases d <;> cases h <;> rfl
theorem keysOf_eq : ∀ {ds : List D} {k : List Key}, keysOf ds = some k → ds = k.map keyD
  | [], k, h => by cases h; rfl
  | d :: ds, k, h => by
    unfold keysOf at h
    obtain ⟨a, h1, h2⟩ := Option.bind_eq_some_iff.mp h
    obtain ⟨b, h3, rfl⟩ := Option.map_eq_some_iff.mp h2
    rw [keyOf_eq h1, keysOf_eq h3]; rfl
theorem eqv_key (a b : Key) : PyData.eqv (keyD a) (keyD b) = decide (a = b) := by
  cases a <;> cases b <;> simp [keyD, PyData.eqv, Bool.beq_eq_decide_eq]
theorem eqvAll_key : ∀ (a b : List Key), PyData.eqvAll (a.map keyD) (b.map keyD) = decide (a = b)
  | [], [] => by simp [PyData.eqvAll]
  | [], _ :: _ => by simp [PyData.eqvAll]
  | _ :: _, [] => by simp [PyData.eqvAll]
  | x :: a, y :: b => by
    rw [List.map_cons, List.map_cons, PyData.eqvAll, eqv_key, eqvAll_key a b]
    by_cases h : x = y <;> simp [h]
theorem eqv_tkey (a b : List Key) : PyData.eqv (tkeyD a) (tkeyD b) = decide (a = b) := by
  unfold tkeyD
  rw [PyData.eqv, eqvAll_key]
section
variable {K : PySem.W.Frag} {G H : Hp} {a : Addr}
theorem find_keys {κ : Type} [DecidableEq κ] {g : κ → D} (hg : ∀ x y, PyData.eqv (g x) (g y) = decide (x = y)) (k : κ) : ∀ {kvs : List (D × D)} {q : List κ} {vs : List V}, kvs.map (·.1) = q.map g → q.length = vs.length → RepKV K G kvs vs →
    (∃ d v, lookD kvs (g k) = some d ∧ valV (q.zip vs) k = some v ∧ Rep K G d v) ∨ (lookD kvs (g k) = none ∧ valV (q.zip vs) k = none)
  | [], q, vs, e, hl, r => by
    cases q with
    | nil => exact .inr ⟨rfl, rfl⟩
    | cons x q => simp at e
  | (k0, d0) :: kvs, q, vs, e, hl, r => by
    cases q with
    | nil => simp at e
    | cons x q =>
      cases vs with
      | nil => simp at hl
      | cons v vs =>
        simp only [List.map_cons, List.cons.injEq] at e
        rw [RepKV] at r
        obtain ⟨v', r', e2, h1, h2⟩ := r
        cases e2
        have hk : PyData.eqv k0 (g k) = decide (x = k) := by rw [e.1, hg]
        by_cases h : x = k
        · refine .inl ⟨d0, v, ?_, valV_pos (p := (x, v)) h, h1⟩
          unfold lookD
          rw [List.find?_cons, show PyData.eqv (k0, d0).1 (g k) = true by rw [hk]; simp [h]]
          rfl
        · rcases find_keys hg k e.2 (by simpa using hl) h2 with ⟨d, w, h3, h4, h5⟩ | ⟨h3, h4⟩
          · refine .inl ⟨d, w, ?_, by rw [List.zip_cons_cons, valV_neg (p := (x, v)) h]; exact h4, h5⟩
            unfold lookD at h3 ⊢
            rw [List.find?_cons, show PyData.eqv (k0, d0).1 (g k) = false by rw [hk]; simp [h]]
            exact h3
          · refine .inr ⟨?_, by rw [List.zip_cons_cons, valV_neg (p := (x, v)) h]; exact h4⟩
            unfold lookD at h3 ⊢
            rw [List.find?_cons, show PyData.eqv (k0, d0).1 (g k) = false by rw [hk]; simp [h]]
            exact h3
theorem tkeys_V : ∀ {k : List Key} {vs : List V}, RepL K G (k.map keyD) vs → vs = k.map kV
  | [], vs, h => by simpa [RepL] using h
  | x :: k, vs, h => by
    rw [List.map_cons, RepL] at h
    obtain ⟨v, r, rfl, h1, h2⟩ := h
    rw [tkeys_V h2]
    cases x <;> (unfold keyD at h1; rw [Rep] at h1; rw [h1]; rfl)
/-- a look-up -/
theorem dget_ok {kvs : List (D × D)} {vs : List V} {key : D} {y : V} (l : Le G H) (h : DObj (Rd H a) (kvs.map (·.1)) vs) (r : RepKV K G kvs vs) (hk : kOk kvs key) (ry : Rep1 K H G key y) :
    ∃ o, DGet H a y o ∧ ((∃ d v, lookD kvs key = some d ∧ o = some v ∧ Rep K G d v) ∨ (lookD kvs key = none ∧ o = none)) := by
  have scal : ∀ (k : Key), key = keyD k → y = kV k → unmarked kvs = true → ∃ o, DGet H a y o ∧ ((∃ d v, lookD kvs key = some d ∧ o = some v ∧ Rep K G d v) ∨ (lookD kvs key = none ∧ o = none)) := fun k e1 e2 hu => by
    rcases h with ⟨q, e, hl, hr⟩ | ⟨q, us, e, _, _, _⟩
    · subst e1 e2
      rcases find_keys eqv_key k e hl r with ⟨d, v, h1, h2, h3⟩ | ⟨h1, h2⟩
      · exact ⟨_, .inl ⟨_, k, hr, rfl, rfl⟩, .inl ⟨d, v, h1, h2, h3⟩⟩
      · exact ⟨_, .inl ⟨_, k, hr, rfl, rfl⟩, .inr ⟨h1, h2⟩⟩
    · exfalso
      cases kvs with
      | nil => simp at e
      | cons p kvs =>
        obtain ⟨x, y⟩ := p
        simp only [List.map_cons, List.cons.injEq] at e
        rw [e.1] at hu
        exact Bool.noConfusion hu
  cases key with
  | int i => exact scal (.inl i) rfl (rep1_int.mp ry) hk
  | str i => exact scal (.inr i) rfl (rep1_str.mp ry) hk
  | tuple ds =>
    obtain ⟨hu, hs⟩ := hk
    obtain ⟨k, ek⟩ := Option.isSome_iff_exists.mp hs
    obtain ⟨b, us, rfl, hb, hr2⟩ := rep1_tup.mp ry
    rw [keysOf_eq ek] at hr2
    rw [tkeys_V hr2] at hb
    rcases h with ⟨q, e, hl, hr⟩ | ⟨q, us', e, e2, hl, hr⟩
    · exfalso
      cases kvs with
      | nil => cases hu
      | cons p kvs =>
        obtain ⟨x, y⟩ := p
        cases q with
        | nil => simp at e
        | cons k0 q =>
          simp only [List.map_cons, List.cons.injEq] at e
          rw [e.1] at hu
          cases k0 <;> exact Bool.noConfusion hu
    · cases kvs with
      | nil => simp at e
      | cons p kvs =>
        obtain ⟨x, d0⟩ := p
        simp only [List.map_cons, List.cons.injEq] at e
        rw [RepKV] at r
        obtain ⟨v', r', e3, h1, h2⟩ := r
        subst e2
        cases e3
        have hk0 : lookD ((x, d0) :: kvs) (.tuple ds) = lookD kvs (.tuple ds) := by
          unfold lookD
          rw [List.find?_cons, show PyData.eqv (x, d0).1 (.tuple ds) = false by rw [show (x, d0).1 = .none from e.1]; simp [PyData.eqv]]
        have e4 : (.tuple ds : D) = tkeyD k := by unfold tkeyD; rw [← keysOf_eq ek]
        rw [hk0, e4]
        rcases find_keys eqv_tkey k e.2 hl h2 with ⟨d, v, h1, h2, h3⟩ | ⟨h1, h2⟩
        · exact ⟨_, .inr ⟨_, k, b, hr, rfl, l.tup hb, rfl⟩, .inl ⟨d, v, h1, h2, h3⟩⟩
        · exact ⟨_, .inr ⟨_, k, b, hr, rfl, l.tup hb, rfl⟩, .inr ⟨h1, h2⟩⟩
  | _ => exact hk.elim
end
section
variable {X : Cx} {k : Nat}
def opGet : OPD
  | [.dict kvs, key, d], q => kOk kvs key ∧ flat d = true ∧ q ((lookD kvs key).getD d)
  | [.dict kvs, key], q => kOk kvs key ∧ q ((lookD kvs key).getD .none)
  | _, _ => False
theorem os_get (hu : X.A.units + 1 < cLine) : MtR X "dict.get" fun x xs => opS X.K 0 opGet (x :: xs) := by
  intro pins s σ H x xs v us Q I rx rxs ⟨G, ds, q, l, rp, ho, c⟩
  unfold opGet at ho
  split at ho
  · obtain ⟨v1, v2, v3, e, ⟨a, vs, rfl, h1, h2⟩, h3, h4⟩ := rep1L_3 rp
    cases e
    cases rx
    obtain ⟨u1, u2, rfl, r1, r2⟩ := rxs.two
    obtain ⟨o, g, hh⟩ := dget_ok l h1 h2 ho.1 h3
    refine d_get2 hu I g r1 r2 fun w' s3 I3 rw' => ⟨_, H, I3, rw', ?_⟩
    rcases hh with ⟨d, w, e1, rfl, r⟩ | ⟨e1, rfl⟩
    · exact ret_old l c (by have := ho.2.2; rw [e1] at this; exact this) r
    · exact ret_old l c (by have := ho.2.2; rw [e1] at this; exact this) (h4.flat ho.2.1)
  · obtain ⟨v1, v2, e, ⟨a, vs, rfl, h1, h2⟩, h3⟩ := rep1L_2 rp
    cases e
    cases rx
    obtain ⟨u1, rfl, r1⟩ := rxs.one
    obtain ⟨o, g, hh⟩ := dget_ok l h1 h2 ho.1 h3
    refine d_get1 hu I g r1 fun w' s3 I3 rw' => ⟨_, H, I3, rw', ?_⟩
    rcases hh with ⟨d, w, e1, rfl, r⟩ | ⟨e1, rfl⟩
    · exact ret_old l c (by have := ho.2; rw [e1] at this; exact this) r
    · exact ret_none l c (by have := ho.2; rw [e1] at this; exact this)
  · exact ho.elim
/-- an item: of a dict too -/
def opIxA : OPD
  | [.dict kvs, key], q => kOk kvs key ∧ ∃ d, lookD kvs key = some d ∧ q d
  | ds, q => opIx ds q
theorem os_ixA (hu : X.A.units + 1 < cLine) : IxR X fun x y => opS X.K 0 opIxA [x, y] := by
  intro va sl pins s σ H x y v u Q I rx ry ⟨G, ds, q, l, rp, ho, c⟩ hs
  unfold opIxA at ho
  split at ho
  · obtain ⟨v1, v2, e, ⟨a, vs, rfl, h1, h2⟩, h3⟩ := rep1L_2 rp
    cases e
    cases rx
    obtain ⟨o, g, hh⟩ := dget_ok l h1 h2 ho.1 h3
    obtain ⟨d0, hd, hq⟩ := ho.2
    rcases hh with ⟨d, w, e1, rfl, r⟩ | ⟨e1, rfl⟩
    · rw [hd] at e1
      cases e1
      exact PyProof.Rows.tail_any (dict_typeIs I g) PySem.F.slot_dict_getitem.lookup (d_getItem hu I g ry fun w' s3 I3 rw' => ⟨w, H, I3, rw', ret_old l c hq r⟩) hs
    · rw [hd] at e1; cases e1
  · exact os_ix va sl pins s σ H x y v u Q I rx ry ⟨G, _, q, l, rp, ho, c⟩ hs
def opInA (f : Bool → Bool) : OPD
  | [key, .dict kvs], q => kOk kvs key ∧ q (.bool (f (hasD kvs key)))
  | ds, q => opIn f ds q
theorem hasD_of {K : PySem.W.Frag} {G : Hp} {kvs : List (D × D)} {key : D} {o : Option V} (h : (∃ d v, lookD kvs key = some d ∧ o = some v ∧ Rep K G d v) ∨ (lookD kvs key = none ∧ o = none)) : o.isSome = hasD kvs key := by
  unfold hasD
  rcases h with ⟨d, v, h1, h2, _⟩ | ⟨h1, h2⟩ <;> rw [h1, h2] <;> rfl
theorem os_inA (hu : X.A.units + 1 < cLine) : OpR X (compareOp .In) fun x y => opS X.K k (opInA id) [x, y] := by
  intro pins s σ H x y v u Q I rx ry ⟨G, ds, q, l, rp, ho, c⟩
  unfold opInA at ho
  split at ho
  · obtain ⟨v1, v2, e, h3, ⟨a, vs, rfl, h1, h2⟩⟩ := rep1L_2 rp
    cases e
    cases ry
    obtain ⟨o, g, hh⟩ := dget_ok l h1 h2 ho.1 h3
    refine d_in hu I g rx fun s3 I3 => ⟨.bl o.isSome, H, I3, rfl, ?_⟩
    rw [hasD_of hh]
    exact ret_bool l c ho.2
  · exact os_in pins s σ H x y v u Q I rx ry ⟨G, _, q, l, rp, ho, c⟩
theorem os_notInA (hu : X.A.units + 1 < cLine) : OpR X (compareOp .NotIn) fun x y => opS X.K k (opInA (!·)) [x, y] := by
  intro pins s σ H x y v u Q I rx ry ⟨G, ds, q, l, rp, ho, c⟩
  unfold opInA at ho
  split at ho
  · obtain ⟨v1, v2, e, h3, ⟨a, vs, rfl, h1, h2⟩⟩ := rep1L_2 rp
    cases e
    cases ry
    obtain ⟨o, g, hh⟩ := dget_ok l h1 h2 ho.1 h3
    refine d_notIn hu I g rx fun s3 I3 => ⟨.bl (!o.isSome), H, I3, rfl, ?_⟩
    rw [hasD_of hh]
    exact ret_bool l c ho.2
  · exact os_notIn pins s σ H x y v u Q I rx ry ⟨G, _, q, l, rp, ho, c⟩
end
end VL

/-! VL13: what changes an object -/
namespace VL
open PySem L2

/-! ### an object owned to the depth 1 -/
def ObjD (K : PySem.W.Frag) (G : Hp) (o : HO) : D → Prop
  | .list ds => ∃ vs, o = .lst vs ∧ RepL K G ds vs
  | .dict kvs => ∃ vs, DObj (fun u => u = o) (kvs.map (·.1)) vs ∧ RepKV K G kvs vs
  | _ => False
theorem vals0 {K : PySem.W.Frag} {H G : Hp} {R : List Root} : ∀ {ds : List D} {vs : List V}, RepL K G ds vs → RelR K H G R → RelR K H G (vals 0 ds vs ++ R)
  | [], vs, h, r => by rw [RepL] at h; subst h; exact r
  | d :: ds, vs, h, r => by
    rw [RepL] at h
    obtain ⟨v, q, rfl, h1, h2⟩ := h
    exact (vals0 h2 r).add h1
theorem repL_of_vals {K : PySem.W.Frag} {H G : Hp} {R : List Root} : ∀ {ds : List D} {vs : List V}, ds.length = vs.length → RelR K H G (vals 0 ds vs ++ R) → RepL K G ds vs
  | [], [], _, _ => RepL.nil
  | [], _ :: _, e, _ => by simp at e
  | _ :: _, [], e, _ => by simp at e
  | d :: ds, v :: vs, e, r => by
    have r : RelR K H G (.val 0 d v :: (vals 0 ds vs ++ R)) := r
    exact RepL.cons r.rep (repL_of_vals (by simpa using e) r.tail)
theorem RelR.blk_free {K : PySem.W.Frag} {H G : Hp} {R : List Root} {a : Addr} {o : HO} (h : RelR K H G (.blk [(a, o)] :: R)) : G a = none := by
  obtain ⟨f, h1, h2, h3, h4⟩ := h
  cases h1 with
  | cons h t =>
    rename_i f0 fs
    have e' : f0 = [a] := h.1
    subst e'
    exact h3 a List.mem_cons_self
theorem RelR.open1 {K : PySem.W.Frag} {H G : Hp} {R : List Root} {c : D} {v : V} (h : RelR K H G (.val 1 c v :: R)) (hf : (∃ ds, c = .list ds) ∨ ∃ kvs, c = .dict kvs) :
    ∃ a o, v = .ref a ∧ H a = some o ∧ G a = none ∧ ObjD K G o c ∧ ∀ o' c', ObjD K G o' c' → RelR K (upd H a o') G (.val 1 c' (.ref a) :: R) := by
  have fin : ∀ (a : Addr) (o : HO), RelR K H G (.blk [(a, o)] :: R) → ∀ o' c', ObjD K G o' c' → RelR K (upd H a o') G (.val 1 c' (.ref a) :: R) := fun a o h o' c' hc => by
    have h1 := h.write (o' := o')
    cases c' with
    | list ds =>
      obtain ⟨vs, rfl, r⟩ := hc
      exact RelR.closeL ((vals0 r (h1.perm (List.Perm.refl _))).perm List.perm_middle |>.perm (List.Perm.refl _)) r.length
    | dict kvs =>
      obtain ⟨vs, hd, r⟩ := hc
      have r' := repKV_iff.mp r
      exact RelR.closeD ((vals0 r' h1).perm List.perm_middle) (by simpa using r'.length) hd
    | _ => exact hc.elim
  rcases hf with ⟨ds, rfl⟩ | ⟨kvs, rfl⟩
  · obtain ⟨a, vs, e, hl, ha, r⟩ := h.openL
    have rl : RepL K G ds vs := repL_of_vals hl r.tail
    exact ⟨a, _, e, ha, r.blk_free, ⟨vs, rfl, rl⟩, fin a _ (RelR.right (R := vals 0 ds vs) (r.perm List.perm_middle.symm))⟩
  · obtain ⟨a, vs, o, e, hl, hd, ha, r⟩ := h.openD
    have rl : RepL K G (kvs.map (·.2)) vs := repL_of_vals (by simpa using hl) r.tail
    exact ⟨a, o, e, ha, r.blk_free, ⟨vs, hd, repKV_iff.mpr rl⟩, fin a _ (RelR.right (R := vals 0 (kvs.map (·.2)) vs) (r.perm List.perm_middle.symm))⟩

/-- a change by a method: the object's datum, the arguments -> (answer, the new datum) -/
abbrev OPM := D → List D → (D → D → Prop) → Prop
def allEx (os : List Om) : Bool := os.all fun o => match o with
  | .ex => true
  | _ => false
theorem opGets_imp {e : Env} : ∀ {os : List Om} {ds : List D} {f g : List D → Prop}, opGets os ds e f → (∀ xs, f xs → g xs) → opGets os ds e g
  | [], [], _, _, h, k => k _ h
  | [], _ :: _, _, _, h, k => k _ h
  | .ex :: os, [], _, _, h, _ => h.elim
  | .ex :: os, d :: ds, _, _, h, k => opGets_imp (os := os) h fun xs q => k _ q
  | .bv i :: os, [], _, _, h, _ => h.elim
  | .bv i :: os, _ :: ds, _, _, h, k => by
    unfold opGets at h ⊢
    split at h
    · exact ⟨h.1, opGets_imp h.2 fun xs q => k _ q⟩
    · exact h.elim
  | .fr k :: os, _, _, _, h, _ => h.elim
theorem repL_one' {K : PySem.W.Frag} {G : Hp} {d : D} {vs : List V} (h : RepL K G [d] vs) : ∃ v, vs = [v] ∧ Rep K G d v := by
  rw [RepL] at h
  obtain ⟨v, r, rfl, h1, h2⟩ := h
  rw [RepL] at h2
  subst h2
  exact ⟨v, rfl, h1⟩
theorem opGets_ex {σ : L2.St} {e : Env} {os : List Om} {ds : List D} {vs : List V} (o : Opds σ os ds vs) : ∀ {f : List D → Prop}, opGets os ds e f → opGets os ds e fun xs => f xs ∧ (allEx os = true → xs = ds) := by
  induction o with
  | nil => intro f h; exact ⟨h, fun _ => rfl⟩
  | @ex os ds vs d v o ih =>
    intro f h
    have h' : opGets os ds e fun xs => f (d :: xs) := h
    show opGets os ds e fun xs => f (d :: xs) ∧ (allEx (.ex :: os) = true → d :: xs = d :: ds)
    refine opGets_imp (ih h') fun xs hq => ⟨hq.1, fun z => by rw [hq.2 (by simpa [allEx] using z)]⟩
  | @fr os ds vs d v k o ih => intro f h; exact h.elim
  | @bv os ds vs d v i hs o ih =>
    intro f h
    unfold opGets at h ⊢
    split at h
    · rename_i p k d' hi
      refine ⟨h.1, opGets_imp (ih h.2) fun xs hq => ⟨hq.1, fun z => by simp [allEx] at z⟩⟩
    · exact h.elim
theorem repL_ex {K : PySem.W.Frag} {H G : Hp} {R : List Root} {σ : L2.St} {os : List Om} {ds : List D} {vs : List V} (o : Opds σ os ds vs) (he : allEx os = true) (r : RelR K H G (tmps os ds vs ++ R)) : RepL K G ds vs := by
  induction o with
  | nil => exact RepL.nil
  | @ex os ds vs d v o ih =>
    have r : RelR K H G (.val 0 d v :: (tmps os ds vs ++ R)) := r
    exact RepL.cons r.rep (ih (by simpa [allEx] using he) r.tail)
  | @fr os ds vs d v k o ih => simp [allEx] at he
  | @bv os ds vs d v i hs o ih => simp [allEx] at he
def opMS (K : PySem.W.Frag) (b : Bool) (op : OPM) : V → List V → Hp → VK → Prop := fun x xs H Q => ∃ (G : Hp) (a : Addr) (o : HO) (c : D) (ds : List D) (q : D → D → Prop), Le G H ∧ G a = none ∧ x = .ref a ∧ H a = some o ∧ ObjD K G o c ∧ Rep1L K H G ds xs ∧ (b = true → RepL K G ds xs) ∧ op c ds q ∧
  ∀ r c' w o', q r c' → Rep K G r w → ObjD K G o' c' → Q w (upd H a o')
def isC : D → Bool
  | .list _ => true
  | .dict _ => true
  | _ => false
def vMut (i : Nat) (T : String) (os : List Om) (ts : VTA) (op : OPM) : VTE := fun e Q X => (match e[i]? with
    | some (.vr _ _ c) => tyD T c ∧ isC c = true
    | _ => False) ∧ ts e (fun ds e' => match e'[i]? with
    | some (.vr p k c) => k = 1 ∧ isC c = true ∧ opGets os ds e' fun xs => op c xs fun r c' => Q r (e'.set i (.vr p 1 c'))
    | _ => False) X
section
variable {X : Cx} {W : WX} {k : Nat} {i : Nat} {x : Str} {xp : Pos} {es : List Expr} {ts : VTA} {os : List Om} {op : OPM} {T : String} {name : Str} {apos cpos : Pos} {id : String} {a : Expr}
theorem own_ty {K : PySem.W.Frag} {H G : Hp} {R : List Root} {c : D} {v : V} {j : Nat} (r : RelR K H G (.val j c v :: R)) (ht : tyD T c) (hc : isC c = true) : tyV2 K T v H := by
  cases j with
  | zero => exact tyV2_of (r.one (.inl (Nat.zero_le _))) ht
  | succ j =>
    cases c with
    | list ds =>
      obtain ⟨a, vs, e, _, ha, _⟩ := r.openL
      subst e
      exact .inl (.inl ⟨ht, vs, SqL.of ha⟩)
    | dict kvs =>
      obtain ⟨a, vs, o, e, _, hd, ha, _⟩ := r.openD
      subst e
      refine .inr ⟨ht, a, rfl, ?_⟩
      rcases hd with ⟨q, _, _, z⟩ | ⟨q, _, _, _, _, z⟩
      · subst z; exact .inl ⟨_, .inl ha⟩
      · subst z; exact .inr ⟨_, .inl ha⟩
    | _ => simp [isC] at hc
theorem mut_ok {K : PySem.W.Frag} {σ : L2.St} {H : Hp} {Q : VK} (h : tV K W 0 (vMut i T os ts op) σ H Q) : ∃ v, σ[i]? = some (some v) ∧ tyV2 K T v H ∧ tA K W os ts σ H fun vs H1 => opMS K (allEx os) op v vs H1 Q := by
  obtain ⟨P, G, e, T0, Qc, Xc, r, ⟨q0, q⟩, c, x⟩ := h
  split at q0
  · rename_i p0 k0 c0 hi
    obtain ⟨v, h1, _, S, h2, _⟩ := r.at hi
    refine ⟨v, h1, own_ty h2 q0.1 q0.2, P, G, e, T0, _, Xc, r, q, fun ds e' vs H' G' hq l o r' => ?_, x⟩
    split at hq
    · rename_i p k1 c1 hi'
      obtain ⟨rfl, hc1, hq⟩ := hq
      obtain ⟨xs, ⟨h3, hx⟩, h4⟩ := opGets_ok o (opGets_ex o hq) r'
      obtain ⟨v', S', h5, h6, h7⟩ := r'.at' hi'
      rw [h1] at h5; cases h5
      have hf : (∃ ds, c1 = .list ds) ∨ ∃ kvs, c1 = .dict kvs := by
        cases c1 with
        | list ds => exact .inl ⟨ds, rfl⟩
        | dict ds => exact .inr ⟨ds, rfl⟩
        | _ => simp [isC] at hc1
      obtain ⟨a, ob, e1, h8, h9, h10, h11⟩ := h6.open1 hf
      subst e1
      refine ⟨G', a, ob, c1, xs, _, r'.le, h9, rfl, h8, h10, h4, fun z => (by rw [hx z]; obtain ⟨RR, _, rr⟩ := r'; exact repL_ex (R := RR ++ T0) o z (rr.perm (permc fun b => by simp only [List.count_append]; omega))), h3, fun rr c' w o' hqq hr hob => ?_⟩
      have z := h11 o' c' hob
      have z2 : Rel K P σ (upd H' a o') G' (e'.set i (.vr p 1 c')) (.val 0 rr w :: T0) := by
        refine h7 1 c' _ _ (.val 0 rr w :: T0) ?_
        have z3 : RelR K (upd H' a o') G' (.val 1 c' (.ref a) :: (S' ++ T0)) := by
          have z4 : RelR K (upd H' a o') G' (tmps os ds vs ++ (.val 1 c' (.ref a) :: (S' ++ T0))) := z.perm (permc fun b => by simp only [List.count_append, List.count_cons]; omega)
          exact z4.right
        exact (z3.add hr).perm (permc fun b => by simp only [List.count_append, List.count_cons]; omega)
      exact c rr _ w _ G' hqq l z2
    · exact hq.elim
  · exact q0.elim
theorem ve_mut (pa : PlainAttrs T) (slot : Slot T name id) (hty : typeOf (.builtin id) = pure (.type "method_descriptor")) (hm : MtR X id fun x xs => opMS X.K (allEx os) op x xs) (hx : PE X (.Name x xp) (tVar i)) (ha : VA X W (a :: es) os ts)
    (hbase : attributeBase (.Name x xp) name X.env (eval (.Name x xp) X.env) = eval (.Name x xp) X.env := by rfl)
    (hfew : ((backTo cpos (starEach (a :: es) X.env)).all (fun x => !x.1) && (backToKw cpos (keywordEach [] X.env)).all (fun x => x.1.isSome)
      && decide ((a :: es).length + ([] : List Keyword).length + (if ([] : List Keyword).isEmpty then 0 else 1) < 30)) = true := by rfl)
    (hline : (apos.endLine == cpos.line) = true := by rfl) (hs : starEach (a :: es) X.env = (false, eval a X.env) :: starEach es X.env := by rfl) (hplain : (backTo cpos (starEach es X.env)).any (·.1) = false := by rfl) :
    VE X W 0 (.Call (.Attribute (.Name x xp) name apos) (a :: es) [] cpos) (vMut i T os ts op) :=
  ⟨PE.imp (pe_bm2 pa slot hty hm hx ha.run hbase hfew hline hs hplain) fun σ H Q q => let ⟨v, h1, h2, h3⟩ := mut_ok q; ⟨v, h1, h2, h3⟩⟩
theorem ve_mut0 (pa : PlainAttrs T) (slot : Slot T name id) (hty : typeOf (.builtin id) = pure (.type "method_descriptor")) (hm : MtR X id fun x xs => opMS X.K true op x xs) (hx : PE X (.Name x xp) (tVar i))
    (hbase : attributeBase (.Name x xp) name X.env (eval (.Name x xp) X.env) = eval (.Name x xp) X.env := by rfl) (hline : (apos.endLine == cpos.line) = true := by rfl) :
    VE X W 0 (.Call (.Attribute (.Name x xp) name apos) [] [] cpos) (vMut i T [] vNil op) :=
  ⟨PE.imp (pe_bm20 pa slot hty hm hx hbase hline) fun σ H Q q => let ⟨v, h1, h2, h3⟩ := mut_ok q; ⟨v, h1, h2, tA_nil h3⟩⟩
/-- xs.pop(i); d.pop(key), there -/
def opPop : OPM
  | .list ds, [.int i], q => (-(2 ^ 63) ≤ i ∧ i < 2 ^ 63) ∧ ∃ j d, seqIndex? i ds.length = some j ∧ ds[j]? = some d ∧ q d (.list (ds.eraseIdx j))
  | _, _, _ => False
theorem repL_erase {K : PySem.W.Frag} {G : Hp} : ∀ {ds : List D} {vs : List V} (j : Nat), RepL K G ds vs → RepL K G (ds.eraseIdx j) (vs.eraseIdx j)
  | [], vs, j, h => by rw [RepL] at h; subst h; exact RepL.nil
  | d :: ds, vs, j, h => by
    rw [RepL] at h
    obtain ⟨v, r, rfl, h1, h2⟩ := h
    cases j with
    | zero => exact h2
    | succ j => exact RepL.cons h1 (repL_erase j h2)
theorem om_pop {b : Bool} : MtR X "list.pop" fun x xs => opMS X.K b opPop x xs := by
  intro pins s σ H x xs v us Q I rx rxs ⟨G, a, o, c, ds, q, l, hG, e, ha, ho, rp, rx1, hop, k⟩
  unfold opPop at hop
  split at hop
  · obtain ⟨vs, rfl, r⟩ := ho
    obtain ⟨v1, rfl, h1⟩ := rep1L_1 rp
    rw [rep1_int] at h1
    subst h1
    obtain ⟨hb, j, d, h2, h3, h4⟩ := hop
    obtain ⟨w, h5, h6⟩ := r.get h3
    exact mt_popAt pins s σ H x _ v us Q I rx rxs ⟨a, vs, _, j, w, e, rfl, ha, hb.1, hb.2, by rw [← r.length]; exact h2, h5, k d _ w _ h4 h6 ⟨_, rfl, repL_erase j r⟩⟩
  · exact hop.elim
def opClear : OPM
  | .list _, [], q => q .none (.list [])
  | _, _, _ => False
theorem om_clear {b : Bool} : MtR X "list.clear" fun x xs => opMS X.K b opClear x xs := by
  intro pins s σ H x xs v us Q I rx rxs ⟨G, a, o, c, ds, q, l, hG, e, ha, ho, rp, rx1, hop, k⟩
  unfold opClear at hop
  split at hop
  · obtain ⟨vs, rfl, r⟩ := ho
    cases rp
    exact mt_clear pins s σ H x _ v us Q I rx rxs ⟨a, vs, e, rfl, ha, k .none _ .non _ hop (by rw [Rep]) ⟨_, rfl, RepL.nil⟩⟩
  · exact hop.elim
def putD (kvs : List (D × D)) (key d : D) : List (D × D) :=
  if kvs.any (fun p => PyData.eqv p.1 key) = true then kvs.map (fun p => if PyData.eqv p.1 key = true then (p.1, d) else p) else kvs ++ [(key, d)]
def dropD (kvs : List (D × D)) (key : D) : List (D × D) := kvs.filter fun p => !PyData.eqv p.1 key
theorem putK_rep {K : PySem.W.Frag} {G : Hp} {κ : Type} [DecidableEq κ] {g : κ → D} (hg : ∀ x y, PyData.eqv (g x) (g y) = decide (x = y)) (k : κ) {d : D} {v : V} (hv : Rep K G d v) {kvs : List (D × D)} {q : List κ} {vs : List V}
    (e : kvs.map (·.1) = q.map g) (hl : q.length = vs.length) (r : RepKV K G kvs vs) :
    ∃ (q' : List κ) (vs' : List V), putK (q.zip vs) k v = q'.zip vs' ∧ q'.length = vs'.length ∧ (putD kvs (g k) d).map (·.1) = q'.map g ∧ RepKV K G (putD kvs (g k) d) vs' := by
  have hany : ∀ {kvs : List (D × D)} {q : List κ} {vs : List V}, kvs.map (·.1) = q.map g → q.length = vs.length → (kvs.any fun p => PyData.eqv p.1 (g k)) = (q.zip vs).any fun kv => decide (kv.1 = k) := by
    intro kvs
    induction kvs with
    | nil =>
      intro q vs e hl
      cases q with
      | nil => rfl
      | cons x q => simp at e
    | cons p kvs ih =>
      intro q vs e hl
      cases q with
      | nil => simp at e
      | cons x q =>
        cases vs with
        | nil => simp at hl
        | cons v vs =>
          simp only [List.map_cons, List.cons.injEq] at e
          rw [List.any_cons, List.zip_cons_cons, List.any_cons, ih e.2 (by simpa using hl), e.1, hg]
  have hmap : ∀ {kvs : List (D × D)} {q : List κ} {vs : List V}, kvs.map (·.1) = q.map g → q.length = vs.length → RepKV K G kvs vs →
      ∃ vs', (q.zip vs).map (fun kv => if kv.1 = k then (kv.1, v) else kv) = q.zip vs' ∧ q.length = vs'.length ∧ (kvs.map fun p => if PyData.eqv p.1 (g k) = true then (p.1, d) else p).map (·.1) = q.map g ∧
        RepKV K G (kvs.map fun p => if PyData.eqv p.1 (g k) = true then (p.1, d) else p) vs' := by
    intro kvs
    induction kvs with
    | nil =>
      intro q vs e hl r
      cases q with
      | nil => exact ⟨[], rfl, rfl, rfl, by rw [List.map_nil, RepKV]⟩
      | cons x q => simp at e
    | cons p kvs ih =>
      intro q vs e hl r
      obtain ⟨p1, p2⟩ := p
      cases q with
      | nil => simp at e
      | cons x q =>
        cases vs with
        | nil => simp at hl
        | cons w vs =>
          simp only [List.map_cons, List.cons.injEq] at e
          rw [RepKV] at r
          obtain ⟨w', r', e2, h1, h2⟩ := r
          cases e2
          obtain ⟨vs', g1, g2, g3, g4⟩ := ih e.2 (by simpa using hl) h2
          by_cases hx : x = k
          · have hp : PyData.eqv p1 (g k) = true := by rw [e.1, hg]; simp [hx]
            refine ⟨v :: vs', by simp [g1, hx], by simp [g2], ?_, ?_⟩
            · rw [List.map_cons, if_pos hp, List.map_cons, g3, e.1, List.map_cons]
            rw [List.map_cons, if_pos hp, RepKV]
            exact ⟨v, vs', rfl, hv, g4⟩
          · have hp : ¬ PyData.eqv p1 (g k) = true := by rw [e.1, hg]; simp [hx]
            refine ⟨w :: vs', by simp [g1, hx], by simp [g2], ?_, ?_⟩
            · rw [List.map_cons, if_neg hp, List.map_cons, g3, e.1, List.map_cons]
            · rw [List.map_cons, if_neg hp, RepKV]
              exact ⟨w, vs', rfl, h1, g4⟩
  unfold putD putK
  rw [hany e hl]
  by_cases hc : ((q.zip vs).any fun kv => decide (kv.1 = k)) = true
  · rw [if_pos hc, if_pos hc]
    obtain ⟨vs', g1, g2, g3, g4⟩ := hmap e hl r
    exact ⟨q, vs', g1, g2, g3, g4⟩
  · rw [if_neg hc, if_neg hc]
    refine ⟨q ++ [k], vs ++ [v], by rw [List.zip_append hl]; rfl, by simp [hl], by simp [e], ?_⟩
    have := RepL.append (repKV_iff.mp r) (RepL.one hv)
    exact repKV_iff.mpr (by simpa using this)
def opAppend : OPM
  | .list ds, [d], q => ds.length < sizeLine ∧ q .none (.list (ds ++ [d]))
  | _, _, _ => False
theorem om_append : MtR X "list.append" fun x xs => opMS X.K true opAppend x xs := by
  intro pins s σ H x xs v us Q I rx rxs ⟨G, a, o, c, ds, q, l, hG, e, ha, ho, rp, rx1, hop, k⟩
  unfold opAppend at hop
  split at hop
  · obtain ⟨vs, rfl, r⟩ := ho
    have r1 := rx1 rfl
    obtain ⟨v1, rfl, h1⟩ := repL_one' r1
    exact mt_append pins s σ H x _ v us Q I rx rxs ⟨a, vs, v1, e, rfl, ha, by rw [← r.length]; exact hop.1, k .none _ .non _ hop.2 (by rw [Rep]) ⟨_, rfl, r.append r1⟩⟩
  · exact hop.elim
/-- xs.extend(a fresh list) -/
def vExt (i : Nat) (ts : VTA) : VTE := fun e Q X => (match e[i]? with
    | some (.vr _ _ c) => tyD "list" c ∧ isC c = true
    | _ => False) ∧ ts e (fun ds e' => match e'[i]?, ds with
    | some (.vr p k (.list xs)), [.list es] => k = 1 ∧ xs.length + es.length ≤ sizeLine ∧ Q .none (e'.set i (.vr p 1 (.list (xs ++ es))))
    | _, _ => False) X
theorem ext_ok {K : PySem.W.Frag} {σ : L2.St} {H : Hp} {Q : VK} (h : tV K W 0 (vExt i ts) σ H Q) : ∃ v, σ[i]? = some (some v) ∧ tyV2 K "list" v H ∧ tA K W [.fr 1] ts σ H fun vs H1 => rExtend v vs H1 Q := by
  obtain ⟨P, G, e, T0, Qc, Xc, r, ⟨q0, q⟩, c, x⟩ := h
  split at q0
  · rename_i p0 k0 c0 hi
    obtain ⟨v, h1, _, S, h2, _⟩ := r.at hi
    refine ⟨v, h1, own_ty h2 q0.1 q0.2, P, G, e, T0, _, Xc, r, q, fun ds e' vs H' G' hq l o r' => ?_, x⟩
    split at hq
    · rename_i p k1 xs es hi'
      obtain ⟨rfl, hz, hq⟩ := hq
      cases o with
      | @fr os ds vs d v2 k o =>
      cases o
      have r' : Rel K P σ H' G' e' (.val 1 (.list es) v2 :: T0) := r'
      obtain ⟨v', S', h5, h6, h7⟩ := r'.at' hi'
      rw [h1] at h5; cases h5
      obtain ⟨a, ob, e1, h8, h9, h10, h11⟩ := h6.open1 (.inl ⟨_, rfl⟩)
      obtain ⟨vs1, e2, rl1⟩ := h10
      subst e1 e2
      have h6' : RelR K H' G' (.val 1 (.list es) v2 :: (.val 1 (.list xs) (.ref a) :: (S' ++ T0))) := h6.perm (permc fun b => by simp only [List.count_append, List.count_cons]; omega)
      obtain ⟨b, ob2, e3, g8, g9, ⟨vs2, e4, rl2⟩, g11⟩ := h6'.open1 (.inl ⟨_, rfl⟩)
      subst e3 e4
      refine ⟨a, b, vs1, vs2, rfl, rfl, h8, g8, by rw [← rl1.length, ← rl2.length]; exact hz, ?_⟩
      have z := h11 (.lst (vs1 ++ vs2)) (.list (xs ++ es)) ⟨_, rfl, rl1.append rl2⟩
      refine c .none _ .non _ G' hq l (h7 1 _ _ _ (.val 0 .none .non :: T0) ?_)
      have z3 : RelR K (upd H' a (.lst (vs1 ++ vs2))) G' (.val 1 (.list (xs ++ es)) (.ref a) :: (S' ++ T0)) :=
        (z.perm (permc fun c => by simp only [List.count_append, List.count_cons]; omega) : RelR K _ G' (.val 1 (.list es) (.ref b) :: (.val 1 (.list (xs ++ es)) (.ref a) :: (S' ++ T0)))).tail
      exact (z3.add (d := .none) (v := .non) (by rw [Rep])).perm (permc fun c => by simp only [List.count_append, List.count_cons]; omega)
    · exact hq.elim
  · exact q0.elim
theorem ve_ext (hx : PE X (.Name x xp) (tVar i)) (ha : VA X W (a :: es) [.fr 1] ts)
    (hbase : attributeBase (.Name x xp) "extend" X.env (eval (.Name x xp) X.env) = eval (.Name x xp) X.env := by rfl)
    (hfew : ((backTo cpos (starEach (a :: es) X.env)).all (fun x => !x.1) && (backToKw cpos (keywordEach [] X.env)).all (fun x => x.1.isSome)
      && decide ((a :: es).length + ([] : List Keyword).length + (if ([] : List Keyword).isEmpty then 0 else 1) < 30)) = true := by rfl)
    (hline : (apos.endLine == cpos.line) = true := by rfl) (hs : starEach (a :: es) X.env = (false, eval a X.env) :: starEach es X.env := by rfl) (hplain : (backTo cpos (starEach es X.env)).any (·.1) = false := by rfl) :
    VE X W 0 (.Call (.Attribute (.Name x xp) "extend" apos) (a :: es) [] cpos) (vExt i ts) :=
  ⟨PE.imp (pe_bm2 PySem.F.plainAttrs_list PySem.F.slot_list_extend PySem.F.type_list_extend mt_extend hx ha.run hbase hfew hline hs hplain) fun σ H Q q => let ⟨v, h1, h2, h3⟩ := ext_ok q; ⟨v, h1, h2, h3⟩⟩
end
end VL

/-! VL14: where a law begins and ends -/
namespace VL
open PySem L2 PySem.Spec PyProof.Rows
/-- what the heap of the claim holds: at most the script, which nobody writes -/
def Script (K : PySem.W.Frag) (U : Hp) (a : Addr) (ns : List Int) : Prop := SqL K U a (ns.map V.int) ∧ ∀ c, U c = none ∨ (c = a ∧ ∃ ob, U c = some (.frz ob (.lst (ns.map V.int))))
def spLaw (n : Nat) : VSp := fun ds Q _ => ∃ ns : List Int, ds = [.list (ns.map PyData.int)] ∧ ns.length ≤ n ∧ (∀ z ∈ ns, Builtin.Int.intBits z ≤ 1048576) ∧ ∀ os, Q (.bool true) os
theorem repL_ofInts {K : PySem.W.Frag} {G : Hp} : ∀ ns : List Int, RepL K G (ns.map PyData.int) (ns.map V.int)
  | [] => RepL.nil
  | n :: r => RepL.cons (by rw [Rep]) (repL_ofInts r)
theorem Script.own {K : PySem.W.Frag} {U : Hp} {a : Addr} {ns : List Int} (h : Script K U a ns) : RelR K U U (argsR [0] [.list (ns.map PyData.int)] [.ref a] ++ []) := by
  have r0 : RelR K U U [] := ⟨[], .nil, List.nodup_nil, ⟨fun _ h => (nomatch h), Le.refl U⟩⟩
  refine r0.add ?_
  rw [Rep]
  exact ⟨a, _, rfl, h.1, repL_ofInts ns⟩
section
variable {P : Program} {w : World} {K : PySem.W.Frag} {mg mb : Str → Option Value} {k n : Nat} {fa a : Addr} {fd : FuncData} {x : Str} {s : Shared} {vs : List Value} {ns : List Int}
/-- what a law's def answers is what its claim asks for -/
theorem ends_well {U : Hp} (hU : Script K U a ns) (hok : HOk P w U s.heap) {r : Result} {s' : Shared} (h : CR (L2.CX P w) [] P w U s (fun v _ => v = .bl true) (fun _ _ _ => False) r s') :
    r = .ok (.ret (.bool true)) ∧ OldK s.heap s'.heap ∧ s'.os = s.os ∧ AllBare s'.gens := by
  match r, h with
  | .ok (.ret u), ⟨v, U', os, bare, un, hok', rv, q⟩ =>
    have q1 : v = .bl true := q
    subst q1
    have ru : u = Value.bool true := rv
    subst ru
    refine ⟨rfl, OldK.of_keep fun c o ec => ?_, os, bare⟩
    rcases hU.2 c with z | ⟨_, ob, z⟩
    · exact un.keep c o ec z (fun m => (nomatch m)) (fun m => (nomatch m))
    · have g1 := (hok c _ z).1
      have g2 := (hok' c _ (un.frzs c ob _ z)).1
      rw [g1] at ec
      cases ec
      exact g2
  | .error e, ⟨c, d, U', _, q⟩ => exact False.elim (by first | exact q | exact q.2.2 | simp at q)
theorem law_callG (KX : K.In s.heap) (hns : s.heap.Ns mainGlobals mg) (hb : s.heap.Ns builtinsNs mb) (hbb : ∀ x : Str, x ≠ "__name__" → mb x = bootBuiltins x) (hlim : s.heap.NoLimit) (hg : s.gens = #[])
    (ha : s.heap.get? a = some { cls := .type "list", data := .seq vs.toArray }) (hi : IntsAre vs ns) (hl : ns.length ≤ n) (hn : n ≤ sizeLine) (hbits : ∀ z ∈ ns, Builtin.Int.intBits z ≤ 1048576) (hr : Room k callerA)
    (F : ∀ base : Heap, K.In base → base.Ns mainGlobals mg → FnG P w K mg base k fa fd [x] (spV K [0] 0 (spLaw n))) (hbind : ∀ (s : Shared) (u : Value), BindsTo s fd ⟨[u], []⟩ [(x, u)]) :
    codeAny (model P w) callerA (.call (.ref fa) ⟨[.ref a], []⟩) (fun r s' => r = .ok (.ret (.bool true)) ∧ OldK s.heap s'.heap ∧ s'.os = s.os ∧ AllBare s'.gens) s := by
  -- either the script is an object of the module, or it is the one object that is known
  have two : ∃ U : Hp, Script K U a ns ∧ HOk P w U s.heap ∧ (U a ≠ none → K.lookup a = none) := by
    cases hk : K.lookup a with
    | some o =>
      have e := KX a o hk
      rw [ha] at e
      cases e
      exact ⟨fun _ => none, ⟨.inr ⟨_, vs.toArray, _, hk, rfl, rfl, rfl, by rw [List.size_toArray, hi.length]; omega, by simpa using vals_ints hi⟩, fun _ => .inl rfl⟩, fun c u z => (nomatch z), fun z => absurd rfl z⟩
    | none =>
      let U : Hp := fun c => if c = a then some (.frz { cls := .type "list", data := .seq vs.toArray } (.lst (ns.map V.int))) else none
      have Ua : U a = some (.frz { cls := .type "list", data := .seq vs.toArray } (.lst (ns.map V.int))) := if_pos rfl
      have Un : ∀ c, c ≠ a → U c = none := fun c hc => if_neg hc
      refine ⟨U, ⟨.inl (.inr ⟨_, Ua⟩), fun c => ?_⟩, fun c u z => ?_, fun _ => rfl⟩
      · by_cases hc : c = a
        · subst hc; exact .inr ⟨rfl, _, Ua⟩
        · exact .inl (Un c hc)
      · by_cases hc : c = a
        · subst hc
          rw [Ua] at z
          cases z
          exact ⟨ha, by rw [List.length_map]; omega, vs, _, vals_ints hi, ha⟩
        · rw [Un c hc] at z; cases z
  obtain ⟨U, hU, hok, hK⟩ := two
  -- the heap behind it all
  have see : ∀ {c : Addr} {o : Obj}, s.heap.get? c = some o → (c = a → U a = none) → (hidT s.heap U).get? c = some o := fun {c o} e h => hidT_get e (by
    rcases hU.2 c with z | ⟨rfl, ob, z⟩
    · exact z
    · exact h rfl)
  have seeN : ∀ {c : Addr} {m : Str → Option Value}, s.heap.Ns c m → (hidT s.heap U).Ns c m := fun {c m} ⟨o, es, ep, e, d, r⟩ => ⟨o, es, ep, see e (fun hc => by
    subst hc
    rw [ha] at e
    cases e
    exact (nomatch (show Data.seq vs.toArray _ = Data.dict es ep from d))), d, r⟩
  have hKb : K.In (hidT s.heap U) := fun c o e => see (KX c o e) fun hc => by
    subst hc
    by_cases z : U c = none
    · exact z
    · rw [hK z] at e; cases e
  obtain ⟨mc, l1, l2⟩ := hlim
  have e0 : Env0 P w K mg (hidT s.heap U) callerA [] s U :=
    ⟨rfl, ⟨hKb, seeN hns, ⟨mb, seeN hb, hbb⟩, ⟨mc, seeN l1, l2⟩⟩, fun c o e => of_hidT e, by rw [hidT_size]; exact Nat.le_refl _, trivial, (fun c m => (nomatch m)), hok, AllBare.of_eq hg⟩
  refine codeAny_mono ((F _ hKb (seeN hns)).run callerA [] s U ⟨[.ref a], []⟩ [.ref a] [.ref a] (fun v _ => v = .bl true) (fun _ _ _ => False) hr rfl e0 (hbind s (.ref a)) (.cons rfl .nil) ?_) fun r s' h => ends_well hU hok h
  exact ⟨U, [], [.list (ns.map PyData.int)], fun d _ => d = .bool true, fun _ _ => False, rfl, rfl, hU.own, ⟨ns, rfl, hl, hbits, fun _ => rfl⟩, fun d os v H' G' q _ _ r => by
    subst q
    have r0 := r.rep
    rw [Rep] at r0
    exact r0, fun c os H' G' q _ _ _ => q⟩
end
theorem walk_ofG {l : PySem.W.OpenLaw} {n k : Nat} {q : Program} {loose : List Str} {XP : (Str → Option Value) → Heap → Prop} {YP : World → Heap → Prop} {d : DefRec} {K : Params → PySem.W.Frag} {x : Str}
    (hn : l.most = some n) (hn2 : n ≤ sizeLine) (hdf : d.params.defaults = []) (hr : Room k callerA)
    (hY : ∀ (w : World) (h : Heap), YP w h → (K w.params).In h)
    (F : ∀ (w : World) (mg : Str → Option Value) (fa : Addr) (h : Heap), (K w.params).In h → h.Ns mainGlobals mg → mg d.name = some (.ref fa) →
      ∃ fd : FuncData, (∀ (s : Shared) (u : Value), BindsTo s fd ⟨[u], []⟩ [(x, u)]) ∧ ∀ base : Heap, (K w.params).In base → base.Ns mainGlobals mg → FnG l.prog w (K w.params) mg base k fa fd [x] (spV (K w.params) [0] 0 (spLaw n))) :
    PySem.W.WalkO q loose XP YP l.row.toRowW d [] (fun f vs => PySem.call f vs) := by
  refine Att.attach_callB hn hdf fun w s₀ s₁ mg mb fa o pm cd doc a vs ns G Y ho hd hcd hmg hobj hints hlen hbits hg => ?_
  obtain ⟨fd, hb, hF⟩ := F w mg fa _ (hY w _ Y) G.T.g hmg
  exact law_callG (hY w _ Y) G.T.g G.T.b G.T.builtins G.T.nolimit hg hobj hints hlen hn2 hbits hr hF hb
end VL

/-! VL15: small words -/
namespace VL
open PySem L2 PySem.Spec PyProof.Rows
/-- what has no parts is owned to any depth -/
def vFlat (t : VTE) : VTE := fun e Q X => t e (fun d e' => flat d = true ∧ Q d e') X
theorem ve_up {X : Cx} {W : WX} {k : Nat} {ex : Expr} {t : VTE} (h : VE X W 0 ex t) : VE X W k ex (vFlat t) :=
  ⟨PE.imp h.run fun σ H Q ⟨P, G, e, T, Qc, Xc, r, q, c, x⟩ => ⟨P, G, e, T, _, Xc, r, q, fun d e' v H' G' ⟨hf, q'⟩ l r' => c d e' v H' G' q' l (rel_flat r'.tail r'.rep (.inr hf)), x⟩⟩
end VL

/-! VL16: facts of data -/
namespace VL
open PySem L2 PySem.Spec PyProof.Rows
theorem b_len : bootBuiltins "len" = some (.builtin "len") := by rfl
theorem b_abs : bootBuiltins "abs" = some (.builtin "abs") := by rfl
theorem b_max : bootBuiltins "max" = some (.builtin "max") := by rfl
theorem b_min : bootBuiltins "min" = some (.builtin "min") := by rfl
theorem b_sum : bootBuiltins "sum" = some (.builtin "sum") := by rfl
theorem b_repr : bootBuiltins "repr" = some (.builtin "repr") := by rfl
theorem b_int : bootBuiltins "int" = some (.type "int") := by rfl
theorem b_str : bootBuiltins "str" = some (.type "str") := by rfl
theorem b_bool : bootBuiltins "bool" = some (.type "bool") := by rfl
theorem b_list : bootBuiltins "list" = some (.type "list") := by rfl
theorem b_tuple : bootBuiltins "tuple" = some (.type "tuple") := by rfl
theorem b_dict : bootBuiltins "dict" = some (.type "dict") := by rfl
def lay (n : Nat) (d : D) : Prop := d.canLay0 = true ∧ d.depth ≤ n
theorem lay_int {n : Nat} (i : Int) : lay n (.int i) := ⟨by rw [PyData.canLay0], by rw [PyData.depth]; exact Nat.zero_le _⟩
theorem lay_bool {n : Nat} (i : Bool) : lay n (.bool i) := ⟨by rw [PyData.canLay0], by rw [PyData.depth]; exact Nat.zero_le _⟩
theorem lay_none {n : Nat} : lay n .none := ⟨by rw [PyData.canLay0], by rw [PyData.depth]; exact Nat.zero_le _⟩
theorem lay_str {n : Nat} {x : Str} (h : PyData.strOk x = true) : lay n (.str x) := ⟨by rw [PyData.canLay0]; exact h, by rw [PyData.depth]; exact Nat.zero_le _⟩
theorem lay_all {n : Nat} : ∀ {ds : List D}, (∀ d ∈ ds, lay n d) → PyData.canLayAll0 ds = true ∧ PyData.depthAll ds ≤ n
  | [], _ => ⟨by rw [PyData.canLayAll0], by rw [PyData.depthAll]; exact Nat.zero_le _⟩
  | d :: ds, h => by
    obtain ⟨h1, h2⟩ := lay_all (ds := ds) fun x hx => h x (List.mem_cons_of_mem _ hx)
    obtain ⟨h3, h4⟩ := h d List.mem_cons_self
    exact ⟨by rw [PyData.canLayAll0, h3, h1]; rfl, by rw [PyData.depthAll]; exact Nat.max_le.mpr ⟨h4, h2⟩⟩
theorem lay_list {n : Nat} {ds : List D} (h : ∀ d ∈ ds, lay n d) : lay (n + 1) (.list ds) := by
  obtain ⟨h1, h2⟩ := lay_all h
  exact ⟨by rw [PyData.canLay0]; exact h1, by rw [PyData.depth]; omega⟩
theorem lay_tup {n : Nat} {ds : List D} (h : ∀ d ∈ ds, lay n d) : lay (n + 1) (.tuple ds) := by
  obtain ⟨h1, h2⟩ := lay_all h
  exact ⟨by rw [PyData.canLay0]; exact h1, by rw [PyData.depth]; omega⟩
theorem lay.shaped {n : Nat} {d : D} (h : lay n d) (hn : n ≤ 64 := by decide) : SeqAt.shaped d = true := by
  unfold SeqAt.shaped
  rw [h.1, Bool.true_and]
  exact decide_eq_true (Nat.le_trans h.2 hn)
theorem lay_ints {n : Nat} (ns : List Int) : lay (n + 1) (.list (ns.map PyData.int)) := lay_list fun d hd => by
  obtain ⟨i, _, rfl⟩ := List.mem_map.mp hd
  exact lay_int i
theorem sh_int (i : Int) : SeqAt.shaped (.int i) = true := (lay_int (n := 0) i).shaped
theorem sh_bool (i : Bool) : SeqAt.shaped (.bool i) = true := (lay_bool (n := 0) i).shaped
theorem sh_none : SeqAt.shaped .none = true := (lay_none (n := 0)).shaped
theorem sh_nil : SeqAt.shaped (.list []) = true := (lay_list (n := 0) (ds := []) (fun d h => absurd h (by simp))).shaped
theorem sh_ints (ns : List Int) : SeqAt.shaped (.list (ns.map PyData.int)) = true := (lay_ints (n := 0) ns).shaped
theorem eqv_int (a b : Int) : PyData.eqv (.int a) (.int b) = decide (a = b) := by
  rw [PyData.eqv]
  by_cases h : a = b <;> simp [h]
theorem eqv_bool (a b : Bool) : PyData.eqv (.bool a) (.bool b) = decide (a = b) := by
  rw [PyData.eqv]
  by_cases h : a = b <;> simp [h]
theorem eqv_str (a b : Str) : PyData.eqv (.str a) (.str b) = decide (a = b) := by
  rw [PyData.eqv]
  by_cases h : a = b <;> simp [h]
theorem eqv_list (a b : List D) : PyData.eqv (.list a) (.list b) = PyData.eqvAll a b := by rw [PyData.eqv]
theorem eqv_tup (a b : List D) : PyData.eqv (.tuple a) (.tuple b) = PyData.eqvAll a b := by rw [PyData.eqv]
/-- lists of things by an image that eqv tells apart -/
theorem eqvAll_map {α : Type} [DecidableEq α] {g : α → D} (hg : ∀ x y, PyData.eqv (g x) (g y) = decide (x = y)) : ∀ xs ys : List α, PyData.eqvAll (xs.map g) (ys.map g) = decide (xs = ys)
  | [], [] => by simp [PyData.eqvAll]
  | [], _ :: _ => by simp [PyData.eqvAll]
  | _ :: _, [] => by simp [PyData.eqvAll]
  | x :: xs, y :: ys => by
    rw [List.map_cons, List.map_cons, PyData.eqvAll, hg, eqvAll_map hg xs ys]
    by_cases h : x = y <;> simp [h]
theorem eqv_ints (ns ms : List Int) : PyData.eqv (.list (ns.map PyData.int)) (.list (ms.map PyData.int)) = decide (ns = ms) := by rw [eqv_list, eqvAll_map eqv_int]
theorem eqv_nil (ds : List D) : PyData.eqv (.list ds) (.list []) = ds.isEmpty := by
  cases ds <;> rw [eqv_list] <;> simp [PyData.eqvAll]
theorem atI_zero {α : Type} (x : α) (xs : List α) : atI (x :: xs) 0 = some x := by
  have := atI_nat (xs := x :: xs) (j := 0) (v := x) rfl
  simpa using this
theorem atI_map {α β : Type} (f : α → β) (xs : List α) (i : Int) : atI (xs.map f) i = (atI xs i).map f := by
  unfold atI
  rw [List.length_map]
  cases ixN xs.length i with
  | none => rfl
  | some j => simp
theorem sized {n : Nat} (h : n ≤ 16777216) : n ≤ sizeLine := by
  have : sizeLine = 16777216 := by decide
  omega
theorem sized' {n : Nat} (h : n < 16777216) : n < sizeLine := by
  have : sizeLine = 16777216 := by decide
  omega
end VL

/-! VL17: loops and comprehensions, on data -/
namespace VL
open PySem L2 PySem.Spec PyProof.Rows
def LcIn (items : List D) (vs : List Nat) (g : VTG) (tt : VTT) (te : VTE) (e' : Env) (Q : QE) : Prop := ∃ Inv : Nat → List D → Env → Prop, Inv 0 [] e' ∧
  (∀ i x acc e, items[i]? = some x → Inv i acc e → g x e fun e2 => tt e2 (fun b e3 => if b = true then te e3 (fun d e4 => Inv (i + 1) (acc ++ [d]) (wipeE e4 vs)) XF else Inv (i + 1) acc (wipeE e3 vs)) XF) ∧
  ∀ acc e, Inv items.length acc e → Q (.list acc) e
theorem vLc_eq {ts : VTA} {src : SRC} {vs : List Nat} {g : VTG} {tt : VTT} {te : VTE} {e : Env} {Q : QE} {X : XQ} :
    vLc ts src vs g tt te e Q X = ts e (fun ds e' => src ds fun items => items.length ≤ sizeLine ∧ (∀ j ∈ vs, e'[j]? = some .un) ∧ LcIn items vs g tt te e' Q) X := rfl
def ForIn (items : List D) (g : VTG) (b : VTS) (D : VEnds) (e' : Env) : Prop := ∃ Inv : Nat → Env → Prop, Inv 0 e' ∧
  (∀ i x e, items[i]? = some x → Inv i e → g x e fun e2 => b { D with nx := Inv (i + 1), ct := Inv (i + 1), bk := D.nx } e2) ∧ ∀ e, Inv items.length e → D.nx e
theorem vFor_eq {ts : VTA} {src : SRC} {g : VTG} {b : VTS} {D : VEnds} {e : Env} : vFor ts src g b D e = ts e (fun ds e' => src ds fun items => ForIn items g b D e') D.ex := rfl
theorem LcIn.map {items : List D} {e' : Env} {j : Nat} {te : VTE} {Q : QE} (f : Nat → D) (he : e'[j]? = some .un)
    (h : ∀ i x, items[i]? = some x → ∀ Q' : QE, Q' (f i) (e'.set j (.vr false 0 x)) → te (e'.set j (.vr false 0 x)) Q' XF) (hq : Q (.list ((List.range items.length).map f)) e') : LcIn items [j] (vgName j) vYes te e' Q := by
  have hs : ∀ x, (e'.set j (.vr false 0 x)).set j .un = e' := fun x => by
    rw [List.set_set]
    exact List.ext_getElem? fun k => by
      by_cases hk : j = k
      · subst hk
        rw [List.getElem?_set_self (List.getElem?_eq_some_iff.mp he).1, he]
      · rw [List.getElem?_set_ne hk]
  refine ⟨fun i acc e => e = e' ∧ acc = (List.range i).map f, ⟨rfl, rfl⟩, fun i x acc e hx ⟨h1, h2⟩ => ?_, fun acc e ⟨h1, h2⟩ => by subst h1 h2; exact hq⟩
  subst h1
  refine ⟨by rw [VL.free, he]; trivial, ?_⟩
  show te _ (fun d e4 => _) XF
  refine h i x hx _ ⟨hs x, ?_⟩
  rw [h2, List.range_succ, List.map_append]
  rfl
/-- with a test -/
theorem LcIn.filter {items : List D} {e' : Env} {j : Nat} {tt : VTT} {te : VTE} {Q : QE} (p : Nat → Bool) (f : Nat → D) (he : e'[j]? = some .un)
    (ht : ∀ i x, items[i]? = some x → ∀ Q' : Bool → Env → Prop, Q' (p i) (e'.set j (.vr false 0 x)) → tt (e'.set j (.vr false 0 x)) Q' XF)
    (h : ∀ i x, items[i]? = some x → p i = true → ∀ Q' : QE, Q' (f i) (e'.set j (.vr false 0 x)) → te (e'.set j (.vr false 0 x)) Q' XF) (hq : Q (.list (((List.range items.length).filter p).map f)) e') : LcIn items [j] (vgName j) tt te e' Q := by
  have hs : ∀ x, (e'.set j (.vr false 0 x)).set j .un = e' := fun x => by
    rw [List.set_set]
    exact List.ext_getElem? fun k => by
      by_cases hk : j = k
      · subst hk
        rw [List.getElem?_set_self (List.getElem?_eq_some_iff.mp he).1, he]
      · rw [List.getElem?_set_ne hk]
  refine ⟨fun i acc e => e = e' ∧ acc = ((List.range i).filter p).map f, ⟨rfl, rfl⟩, fun i x acc e hx ⟨h1, h2⟩ => ?_, fun acc e ⟨h1, h2⟩ => by subst h1 h2; exact hq⟩
  subst h1
  refine ⟨by rw [VL.free, he]; trivial, ?_⟩
  refine ht i x hx _ ?_
  by_cases hp : p i = true
  · rw [if_pos hp]
    refine h i x hx hp _ ⟨hs x, ?_⟩
    rw [h2, List.range_succ, List.filter_append, List.map_append]
    simp [hp]
  · rw [if_neg hp]
    refine ⟨hs x, ?_⟩
    rw [h2, List.range_succ, List.filter_append, List.map_append]
    simp [hp]
theorem ForIn.of {items : List D} {g : VTG} {b : VTS} {D : VEnds} {e' : Env} (Inv : Nat → Env → Prop) (h0 : Inv 0 e') (hs : ∀ i x e, items[i]? = some x → Inv i e → g x e fun e2 => b { D with nx := Inv (i + 1), ct := Inv (i + 1), bk := D.nx } e2)
    (he : ∀ e, Inv items.length e → D.nx e) : ForIn items g b D e' := ⟨Inv, h0, hs, he⟩
theorem upto_len (a : Int) (n : Nat) : (upto a n).length = n := by unfold upto; simp
theorem upto_get {a : Int} {n i : Nat} {x : D} (h : (upto a n)[i]? = some x) : i < n ∧ x = .int (a + (i : Nat)) := by
  unfold upto at h
  rw [List.getElem?_map, Option.map_eq_some_iff] at h
  obtain ⟨k, h1, h2⟩ := h
  obtain ⟨h3, h4⟩ := List.getElem?_eq_some_iff.mp h1
  rw [List.getElem_range] at h4
  subst h4 h2
  exact ⟨by simpa using h3, rfl⟩
/-- a cell that can be stored to -/
def Fr : Cell → Prop
  | .un => True
  | .vr false _ _ => True
  | _ => False
def FrO : Option Cell → Prop
  | some c => Fr c
  | none => False
theorem fr_un : Fr .un = True := rfl
theorem fr_vr {k : Nat} {d : D} : Fr (.vr false k d) = True := rfl
theorem frO_some {c : Cell} : FrO (some c) = Fr c := rfl
theorem free_eq {e : Env} {i : Nat} : VL.free e i = FrO e[i]? := by
  unfold VL.free FrO Fr
  cases e[i]? with
  | none => rfl
  | some c => cases c with
    | un => rfl
    | vr p k d => cases p <;> rfl
theorem cdiv {i j : Int} (h : 0 < j) (h2 : j < 1073741824) : CDiv i j := ⟨h, h2⟩
theorem cmulL {i j : Int} (h : -18446744073709551616 < i) (h2 : i < 18446744073709551616) : CMul i j := .inl ⟨h, h2⟩
theorem cmulR {i j : Int} (h : -18446744073709551616 < j) (h2 : j < 18446744073709551616) : CMul i j := .inr ⟨h, h2⟩
/-- a list of ints -/
def IntsD (ds : List D) : Prop := ∃ ns : List Int, ds = ns.map PyData.int
theorem intsD_nil : IntsD [] := ⟨[], rfl⟩
theorem IntsD.snoc {ds : List D} (h : IntsD ds) (i : Int) : IntsD (ds ++ [.int i]) := by
  obtain ⟨ns, rfl⟩ := h
  exact ⟨ns ++ [i], by simp⟩
theorem intsD_map (ns : List Int) : IntsD (ns.map PyData.int) := ⟨ns, rfl⟩
theorem IntsD.shaped {ds : List D} (h : IntsD ds) : SeqAt.shaped (.list ds) = true := by
  obtain ⟨ns, rfl⟩ := h
  exact sh_ints ns
theorem IntsD.cut {ds : List D} (h : IntsD ds) (a b : Option Int) : IntsD (cutD ds a b) := by
  obtain ⟨ns, rfl⟩ := h
  unfold cutD
  exact ⟨_, by rw [← List.map_drop, ← List.map_take]⟩
theorem seq_ {t u : VTS} {D : VEnds} {e : Env} (h : t { D with nx := fun e' => u D e' } e) : vSeq t u D e := h
def CallIn (modes : List Nat) (os : List Om) (sp : VSp) (Q : QE) (X : XQ) (ds : List D) (e' : Env) : Prop := cargs modes os ds e' fun xs => sp xs (fun d outs => Q d (couts modes os outs e')) (fun c outs => X c (couts modes os outs e'))
theorem vCall_eq {modes : List Nat} {os : List Om} {ts : VTA} {sp : VSp} {e : Env} {Q : QE} {X : XQ} : vCall modes os ts sp e Q X = ts e (fun ds e' => CallIn modes os sp Q X ds e') X := rfl
theorem call_ {modes : List Nat} {os : List Om} {sp : VSp} {Q : QE} {X : XQ} {ds : List D} {e' : Env} (h : cargs modes os ds e' fun xs => sp xs (fun d outs => Q d (couts modes os outs e')) (fun c outs => X c (couts modes os outs e'))) : CallIn modes os sp Q X ds e' := h
/-- a while by its test, its body, its end -/
theorem while_ {c : VTT} {b : VTS} {D : VEnds} {e : Env} (Inv : Nat → Env → Prop) (Pt Pf : Nat → Env → Prop) (h0 : ∃ m, Inv m e) (ht : ∀ m e, Inv m e → ∀ Q : Bool → Env → Prop, (Pt m e → Q true e) → (Pf m e → Q false e) → c e Q D.ex)
    (hb : ∀ m e, Inv m e → Pt m e → b { D with nx := fun e => ∃ m', m' < m ∧ Inv m' e, ct := fun e => ∃ m', m' < m ∧ Inv m' e, bk := D.nx } e) (he : ∀ m e, Inv m e → Pf m e → D.nx e) : vWhile c b D e :=
  ⟨Inv, h0, fun m e hI => ht m e hI _ (fun h => by rw [if_pos rfl]; exact hb m e hI h) (fun h => by rw [if_neg (by decide)]; exact he m e hI h)⟩
/-- an if by its test and its branches -/
theorem if_ {c : VTT} {a b : VTS} {D : VEnds} {e : Env} (Pt Pf : Prop) (ht : ∀ Q : Bool → Env → Prop, (Pt → Q true e) → (Pf → Q false e) → c e Q D.ex) (ha : Pt → a D e) (hb : Pf → b D e) : vIf c a b D e :=
  ht _ (fun h => by rw [if_pos rfl]; exact ha h) (fun h => by rw [if_neg (by decide)]; exact hb h)
end VL

namespace VL
namespace K43
open PySem L2 PySem.Spec PyProof.Rows
/-! ### the texts of law_k43_forms_counted, by slots -/
def topS (i : Nat) : Stmt := PySem.Challenge.pw_namelike_k43_forms_counted.main.body.getD i (.Pass ⟨0, 0, 0, 0⟩)
abbrev s_ways_on : Stmt := topS 1
abbrev N_ways_on : List Str := ["length", "names", "found", "left", "ahead", "used"]
theorem sc_ways_on : FnScope N_ways_on ["length", "names"] (defScope s_ways_on) := ⟨rfl, rfl, rfl, by decide +kernel, rfl, by decide +kernel, by decide +kernel⟩
-- slots: 0 length, 1 names, 2 found!1, 3 left, 4 ahead, 5 used
def t_ways_on : VTS :=
  (vSeq (vSet 1 2 (vList (vCons (vApp [.ex, .ex] (vCons (vList (vCons (vK (.int 1)) vNil)) (vCons (vApp [.ex, .ex] (vCons (vVar 1) (vCons (vK (.int 2)) vNil)) opAdd) vNil)) opMul) vNil)))
  (vSeq (vFor (vCons (vVar 0) vNil) srcR1 (vgName 3)
  (vSeq (vSet 0 4 (vApp [.bv 2, .ex] (vCons (vBv 2) (vCons (vApp [.ex] (vCons (vK (.int 1)) vNil) opNeg) vNil)) opIxA))
  (vDrop (vMut 2 "list" [.ex] (vCons (vApp [.ex, .ex] (vCons (vLc (vCons (vApp [.ex, .ex] (vCons (vVar 1) (vCons (vK (.int 1)) vNil)) opAdd) vNil) srcR1 [5] (vgName 5) vYes (vApp [.ex, .ex] (vCons (vApp [.ex, .ex] (vCons (vVar 5) (vCons (vApp [.ex, .ex] (vCons (vVar 4) (vCons (vVar 5) vNil)) opIxA) vNil)) opMul) (vCons (vApp [.ex, .ex] (vCons (vApp [.ex] (vCons (vApp [.ex, .ex] (vCons (vVar 5) (vCons (vVar 1) vNil)) opLt) vNil) opInt) (vCons (vApp [.ex, .ex] (vCons (vVar 4) (vCons (vApp [.ex, .ex] (vCons (vVar 5) (vCons (vK (.int 1)) vNil)) opAdd) vNil)) opIxA) vNil)) opMul) vNil)) opAdd)) (vCons (vList (vCons (vK (.int 0)) vNil)) vNil)) opAdd) vNil) opAppend))))
  (vRet (vFrz 2))))
abbrev s_law_draws : Stmt := topS 4
abbrev N_law_draws : List Str := ["_law_script", "_law_draws_here", "_law_k", "_law_rest", "_law_stir", "_law_many_here"]
theorem sc_law_draws : FnScope N_law_draws ["_law_script"] (defScope s_law_draws) := ⟨rfl, rfl, rfl, by decide +kernel, rfl, by decide +kernel, by decide +kernel⟩
-- slots: 0 _law_script, 1 _law_draws_here!1, 2 _law_k, 3 _law_rest, 4 _law_stir, 5 _law_many_here
def t_law_draws : VTS :=
  (vSeq (vSet 1 1 (vList vNil))
  (vSeq (vFor (vCons (vApp [.ex, .ex] (vCons (vApp [.ex] (vCons (vVar 0) vNil) opLen) (vCons (vK (.int 80)) vNil)) opMin) vNil) srcR1 (vgName 2)
  (vSeq (vSet 0 3 (vApp [.ex] (vCons (vApp [.ex, .ex] (vCons (vVar 0) (vCons (vVar 2) vNil)) opIxA) vNil) opAbs))
  (vIf (vTB (vApp [.ex, .ex] (vCons (vVar 3) (vCons (vApp [.ex, .ex] (vCons (vK (.int 10)) (vCons (vK (.int 18)) vNil)) opPow) vNil)) opLt))
  (vSeq (vSet 0 4 (vApp [.ex, .ex] (vCons (vApp [.ex, .ex] (vCons (vApp [.ex, .ex] (vCons (vApp [.ex, .ex] (vCons (vApp [.ex, .ex] (vCons (vVar 3) (vCons (vApp [.ex, .ex] (vCons (vK (.int 7919)) (vCons (vVar 2) vNil)) opMul) vNil)) opAdd) (vCons (vK (.int 3)) vNil)) opAdd) (vCons (vK (.int 2147483647)) vNil)) opMod) (vCons (vK (.int 48271)) vNil)) opMul) (vCons (vK (.int 2147483647)) vNil)) opMod))
  (vSeq (vSet 0 4 (vApp [.ex, .ex] (vCons (vApp [.ex, .ex] (vCons (vVar 4) (vCons (vVar 4) vNil)) opMul) (vCons (vK (.int 2147483629)) vNil)) opMod))
  (vSeq (vDrop (vMut 1 "list" [.ex] (vCons (vApp [.ex, .ex] (vCons (vApp [.ex, .ex] (vCons (vVar 4) (vCons (vK (.int 16)) vNil)) opFdiv) (vCons (vK (.int 1000)) vNil)) opMod) vNil) opAppend))
  (vSeq (vDrop (vMut 1 "list" [.ex] (vCons (vApp [.ex, .ex] (vCons (vApp [.ex, .ex] (vCons (vVar 4) (vCons (vK (.int 16000)) vNil)) opFdiv) (vCons (vK (.int 1000)) vNil)) opMod) vNil) opAppend))
  (vSeq (vSet 0 4 (vApp [.ex, .ex] (vCons (vApp [.ex, .ex] (vCons (vVar 4) (vCons (vApp [.ex, .ex] (vCons (vK (.int 40692)) (vCons (vApp [.ex, .ex] (vCons (vVar 2) (vCons (vK (.int 7)) vNil)) opAdd) vNil)) opMul) vNil)) opAdd) (vCons (vK (.int 2147483587)) vNil)) opMod))
  (vDrop (vMut 1 "list" [.ex] (vCons (vApp [.ex, .ex] (vCons (vApp [.ex, .ex] (vCons (vApp [.ex, .ex] (vCons (vApp [.ex, .ex] (vCons (vVar 4) (vCons (vVar 4) vNil)) opMul) (vCons (vK (.int 2147483647)) vNil)) opMod) (vCons (vK (.int 16)) vNil)) opFdiv) (vCons (vK (.int 1000)) vNil)) opMod) vNil) opAppend)))))))
  (vSeq (vSet 0 5 (vK (.int 0)))
  (vWhile (vAndT (vTB (vApp [.ex, .ex] (vCons (vVar 3) (vCons (vK (.int 1000)) vNil)) opGe)) (vTB (vApp [.ex, .ex] (vCons (vVar 5) (vCons (vK (.int 60)) vNil)) opLt)))
  (vSeq (vDrop (vMut 1 "list" [.ex] (vCons (vApp [.ex, .ex] (vCons (vVar 3) (vCons (vK (.int 1000)) vNil)) opMod) vNil) opAppend))
  (vSeq (vSet 0 3 (vApp [.ex, .ex] (vCons (vVar 3) (vCons (vK (.int 1000)) vNil)) opFdiv))
  (vSet 0 5 (vApp [.ex, .ex] (vCons (vVar 5) (vCons (vK (.int 1)) vNil)) opAdd)))))))))
  (vRet (vSl (.bv 1) (vBv 1) vNoP (vPart (vK (.int 240))) opSl))))
abbrev s_law_take : Stmt := topS 5
abbrev N_law_take : List Str := ["_law_draws_here", "_law_many_here"]
theorem sc_law_take : FnScope N_law_take ["_law_draws_here", "_law_many_here"] (defScope s_law_take) := ⟨rfl, rfl, rfl, by decide +kernel, rfl, by decide +kernel, by decide +kernel⟩
-- slots: 0 _law_draws_here!1, 1 _law_many_here
def t_law_take : VTS :=
  (vSeq (vIf (vTB (vApp [.bv 0, .ex] (vCons (vBv 0) (vCons (vList vNil) vNil)) opEq))
  (vRet (vK (.int 0)))
  vNext)
  (vRet (vApp [.ex, .ex] (vCons (vMut 0 "list" [.ex] (vCons (vK (.int 0)) vNil) opPop) (vCons (vVar 1) vNil)) opMod)))
abbrev s_law_whole : Stmt := topS 6
abbrev N_law_whole : List Str := ["_law_thing"]
theorem sc_law_whole : FnScope N_law_whole ["_law_thing"] (defScope s_law_whole) := ⟨rfl, rfl, rfl, by decide +kernel, rfl, by decide +kernel, by decide +kernel⟩
-- slots: 0 _law_thing
def t_law_whole : VTS :=
  (vRet (vAndV (vApp [.ex] (vCons (vVar 0) vNil) (opIsi "int")) (vNotV (vApp [.ex] (vCons (vVar 0) vNil) (opIsi "bool")))))
abbrev s_law_all : Stmt := topS 7
abbrev N_law_all : List Str := ["_law_length", "_law_names", "_law_found", "_law_k", "_law_longer", "_law_row", "_law_many_here", "_law_at"]
theorem sc_law_all : FnScope N_law_all ["_law_length", "_law_names"] (defScope s_law_all) := ⟨rfl, rfl, rfl, by decide +kernel, rfl, by decide +kernel, by decide +kernel⟩
-- slots: 0 _law_length, 1 _law_names, 2 _law_found, 3 _law_k, 4 _law_longer!1, 5 _law_row, 6 _law_many_here, 7 _law_at
def t_law_all : VTS :=
  (vSeq (vSet 0 2 (vList (vCons (vList vNil) vNil)))
  (vSeq (vFor (vCons (vVar 0) vNil) srcR1 (vgName 3)
  (vSeq (vSet 1 4 (vList vNil))
  (vSeq (vFor (vCons (vVar 2) vNil) srcL (vgName 5)
  (vSeq (vSet 0 6 (vApp [.ex, .ex] (vCons (vApp [.ex] (vCons (vApp [.ex, .ex] (vCons (vList (vCons (vApp [.ex] (vCons (vK (.int 1)) vNil) opNeg) vNil)) (vCons (vVar 5) vNil)) opAdd) vNil) opMax) (vCons (vK (.int 1)) vNil)) opAdd))
  (vDrop (vExt 4 (vCons (vLc (vCons (vApp [.ex, .ex] (vCons (vApp [.ex, .ex] (vCons (vVar 6) (vCons (vK (.int 1)) vNil)) opAdd) (vCons (vVar 1) vNil)) opMin) vNil) srcR1 [7] (vgName 7) vYes (vApp [.ex, .ex] (vCons (vVar 5) (vCons (vList (vCons (vVar 7) vNil)) vNil)) opAdd)) vNil)))))
  (vSet 0 2 (vFrz 4)))))
  (vRet (vVar 2))))
abbrev s_law_many : Stmt := topS 8
abbrev N_law_many : List Str := ["_law_length", "_law_names", "_law_some", "_law_k", "_law_used"]
theorem sc_law_many : FnScope N_law_many ["_law_length", "_law_names"] (defScope s_law_many) := ⟨rfl, rfl, rfl, by decide +kernel, rfl, by decide +kernel, by decide +kernel⟩
-- slots: 0 _law_length, 1 _law_names, 2 _law_some, 3 _law_k, 4 _law_used
def t_law_many : VTS :=
  (vSeq (vSet 0 2 (vApp [.ex, .ex] (vCons (vList (vCons (vK (.int 1)) vNil)) (vCons (vApp [.ex, .ex] (vCons (vList (vCons (vK (.int 0)) vNil)) (vCons (vVar 1) vNil)) opMul) vNil)) opAdd))
  (vSeq (vFor (vCons (vVar 0) vNil) srcR1 (vgName 3)
  (vSet 0 2 (vApp [.ex, .ex] (vCons (vList (vCons (vK (.int 0)) vNil)) (vCons (vLc (vCons (vK (.int 1)) (vCons (vApp [.ex, .ex] (vCons (vVar 1) (vCons (vK (.int 1)) vNil)) opAdd) vNil)) srcR2 [4] (vgName 4) vYes (vApp [.ex, .ex] (vCons (vApp [.ex, .ex] (vCons (vVar 4) (vCons (vApp [.ex, .ex] (vCons (vVar 2) (vCons (vVar 4) vNil)) opIxA) vNil)) opMul) (vCons (vApp [.ex, .ex] (vCons (vVar 2) (vCons (vApp [.ex, .ex] (vCons (vVar 4) (vCons (vK (.int 1)) vNil)) opSub) vNil)) opIxA) vNil)) opAdd)) vNil)) opAdd)))
  (vRet (vApp [.ex] (vCons (vVar 2) vNil) opSum))))
abbrev s_many_forms : Stmt := topS 2
abbrev N_many_forms : List Str := ["length", "names"]
theorem sc_many_forms : FnScope N_many_forms ["length", "names"] (defScope s_many_forms) := ⟨rfl, rfl, rfl, by decide +kernel, rfl, by decide +kernel, by decide +kernel⟩
-- slots: 0 length, 1 names
def t_many_forms (sp_ways_on : VSp) : VTS :=
  (vRet (vApp [.ex, .ex] (vCons (vApp [.ex, .ex] (vCons (vCall [0, 0] [.ex, .ex] (vCons (vVar 0) (vCons (vVar 1) vNil)) sp_ways_on) (vCons (vVar 0) vNil)) opIxA) (vCons (vK (.int 0)) vNil)) opIxA))
abbrev s_law : Stmt := topS 9
abbrev N_law : List Str := ["_law_script", "_law_draws_here", "_law_many_here", "_law_length", "_law_names", "_law_found", "_law_short"]
theorem sc_law : FnScope N_law ["_law_script"] (defScope s_law) := ⟨rfl, rfl, rfl, by decide +kernel, rfl, by decide +kernel, by decide +kernel⟩
-- slots: 0 _law_script, 1 _law_draws_here!1, 2 _law_many_here, 3 _law_length, 4 _law_names, 5 _law_found, 6 _law_short
def t_law (sp_law_draws sp_law_take sp_many_forms sp_law_many sp_law_whole sp_law_all : VSp) : VTS :=
  (vSeq (vSet 1 1 (vCall [0] [.ex] (vCons (vVar 0) vNil) sp_law_draws))
  (vSeq (vSet 0 2 (vK (.int 0)))
  (vSeq (vWhile (vOrT (vTB (vApp [.ex, .ex] (vCons (vVar 2) (vCons (vK (.int 1)) vNil)) opLt)) (vAndT (vTB (vApp [.bv 1, .ex] (vCons (vBv 1) (vCons (vList vNil) vNil)) opNe)) (vTB (vApp [.ex, .ex] (vCons (vVar 2) (vCons (vK (.int 12)) vNil)) opLt))))
  (vSeq (vSet 0 3 (vCall [1, 0] [.bv 1, .ex] (vCons (vBv 1) (vCons (vK (.int 41)) vNil)) sp_law_take))
  (vSeq (vSet 0 4 (vCall [1, 0] [.bv 1, .ex] (vCons (vBv 1) (vCons (vK (.int 27)) vNil)) sp_law_take))
  (vSeq (vSet 0 5 (vCall [0, 0] [.ex, .ex] (vCons (vVar 3) (vCons (vVar 4) vNil)) sp_many_forms))
  (vSeq (vIf (vOrT (vNotT (vTru (vCall [0] [.ex] (vCons (vVar 5) vNil) sp_law_whole))) (vTB (vApp [.ex, .ex] (vCons (vVar 5) (vCons (vCall [0, 0] [.ex, .ex] (vCons (vVar 3) (vCons (vVar 4) vNil)) sp_law_many) vNil)) opNe)))
  (vRet (vK (.bool false)))
  vNext)
  (vSeq (vSet 0 6 (vCall [1, 0] [.bv 1, .ex] (vCons (vBv 1) (vCons (vK (.int 7)) vNil)) sp_law_take))
  (vSeq (vSet 0 4 (vCall [1, 0] [.bv 1, .ex] (vCons (vBv 1) (vCons (vK (.int 27)) vNil)) sp_law_take))
  (vSeq (vIf (vTB (vApp [.ex, .ex] (vCons (vCall [0, 0] [.ex, .ex] (vCons (vVar 6) (vCons (vVar 4) vNil)) sp_many_forms) (vCons (vApp [.ex] (vCons (vCall [0, 0] [.ex, .ex] (vCons (vVar 6) (vCons (vVar 4) vNil)) sp_law_all) vNil) opLen) vNil)) opNe))
  (vRet (vK (.bool false)))
  vNext)
  (vSet 0 2 (vApp [.ex, .ex] (vCons (vVar 2) (vCons (vK (.int 1)) vNil)) opAdd))))))))))
  (vRet (vAndV (vApp [.ex, .ex] (vCons (vCall [0, 0] [.ex, .ex] (vCons (vK (.int 0)) (vCons (vK (.int 0)) vNil)) sp_many_forms) (vCons (vK (.int 1)) vNil)) opEq) (vAndV (vApp [.ex, .ex] (vCons (vCall [0, 0] [.ex, .ex] (vCons (vK (.int 1)) (vCons (vK (.int 0)) vNil)) sp_many_forms) (vCons (vK (.int 0)) vNil)) opEq) (vApp [.ex, .ex] (vCons (vCall [0, 0] [.ex, .ex] (vCons (vK (.int 40)) (vCons (vK (.int 26)) vNil)) sp_many_forms) (vCons (vCall [0, 0] [.ex, .ex] (vCons (vK (.int 40)) (vCons (vK (.int 26)) vNil)) sp_law_many) vNil)) opEq)))))))
section
variable {P : Program} {w : World} {K : PySem.W.Frag} {mg : Str → Option Value} {base : Heap}
set_option maxHeartbeats 1000000 in
theorem ok_ways_on {f : Addr} {fd : FuncData} {sp : VSp} (F : Fun K "ways_on" "ways_on" s_ways_on f fd) (m_range : mg "range" = none) (m_int : mg "int" = none) (hd : DefOk [0, 0] 6 (t_ways_on) sp) :
    FnG P w K mg base 1 f fd ["length", "names"] (spV K [0, 0] 0 sp) :=
  def_ok (t := t_ways_on) F sc_ways_on rfl (by decide) (fun cdv A outer s H E hr hgd tk hp =>
    (vss_cons (vs_set (i := 2) (k := 1) sc_ways_on.nd rfl (by first | exact .inl rfl | exact .inr rfl) (ve_list (k := 0) (ves_cons (ve_low (j := 0) (k := 1) (by decide) (ve_bin os_mul (vo_ex (ve_low (j := 0) (k := 1) (by decide) (ve_list (k := 0) (ves_cons ve_int ves_nil)))) (vo_ex (ve_low (j := 0) (k := 1) (by decide) (ve_bin os_add (vo_ex (ve_var (pv 1))) (vo_ex ve_int)))))) ves_nil)))
    (vss_cons (vs_for hp rfl (vi_range1 (by rfl) m_range (va_cons (vo_ex (ve_var (pv 0))) va_nil)) (vg_name (i := 3) sc_ways_on.nd rfl (by first | exact .inl rfl | exact .inr rfl))
    (vss_cons (vs_set (i := 4) (k := 0) sc_ways_on.nd rfl (by first | exact .inl rfl | exact .inr rfl) (ve_ix (os_ixA (Nat.lt_of_le_of_lt (Nat.add_le_add_left (by decide) _) hr.units)) (vo_bv (pv 2)) (vo_ex (ve_un os_neg (vo_ex ve_int))) (fun _ _ => rfl)))
    (vss_one (vs_expr (k := 0) (ve_mut PySem.F.plainAttrs_list PySem.F.slot_list_append PySem.F.type_list_append om_append (pv 2) (va_cons (vo_ex (ve_low (j := 0) (k := 1) (by decide) (ve_bin os_add (vo_ex (ve_low (j := 0) (k := 1) (by decide) (ve_lc (k := 0) (own := [("used", 5)]) rfl sc_ways_on.nd (vi_range1 (by rfl) m_range (va_cons (vo_ex (ve_low (j := 0) (k := 1) (by decide) (ve_bin os_add (vo_ex (ve_var (pv 1))) (vo_ex ve_int)))) va_nil)) (blkOk_by (N := N_ways_on) (sc := defScope s_ways_on) (by decide +kernel)) (by decide) (fun _ _ _ _ _ => (vg_name (i := 5) sc_ways_on.nd rfl (by first | exact .inl rfl | exact .inr rfl))) (fun _ _ _ _ _ => vts_nil) (fun _ _ _ _ _ => (ve_low (j := 0) (k := 1) (by decide) (ve_bin os_add (vo_ex (ve_low (j := 0) (k := 1) (by decide) (ve_bin os_mul (vo_ex (ve_var (pv 5))) (vo_ex (ve_ix (os_ixA (Nat.lt_of_le_of_lt (Nat.add_le_add_left (by decide) _) hr.units)) (vo_ex (ve_var (pv 4))) (vo_ex (ve_var (pv 5))) (fun _ _ => rfl)))))) (vo_ex (ve_low (j := 0) (k := 1) (by decide) (ve_bin os_mul (vo_ex (ve_callTy os_int (by rfl) m_int b_int (va_cons (vo_ex (ve_cmp os_lt (vo_ex (ve_var (pv 5))) (vo_ex (ve_var (pv 1))) (nomark _))) va_nil))) (vo_ex (ve_ix (os_ixA (Nat.lt_of_le_of_lt (Nat.add_le_add_left (by decide) _) hr.units)) (vo_ex (ve_var (pv 4))) (vo_ex (ve_low (j := 0) (k := 1) (by decide) (ve_bin os_add (vo_ex (ve_var (pv 5))) (vo_ex ve_int)))) (fun _ _ => rfl)))))))))))) (vo_ex (ve_low (j := 0) (k := 1) (by decide) (ve_list (k := 0) (ves_cons ve_int ves_nil))))))) va_nil))))))
    (vss_one (vs_ret (ve_frz (pv 2))))))) hd
set_option maxHeartbeats 1000000 in
theorem ok_law_draws {f : Addr} {fd : FuncData} {sp : VSp} (F : Fun K "_law_draws" "_law_draws" s_law_draws f fd) (m_len : mg "len" = none) (m_min : mg "min" = none) (m_range : mg "range" = none) (m_abs : mg "abs" = none) (hd : DefOk [0] 6 (t_law_draws) sp) :
    FnG P w K mg base 1 f fd ["_law_script"] (spV K [0] 1 sp) :=
  def_ok (t := t_law_draws) F sc_law_draws rfl (by decide) (fun cdv A outer s H E hr hgd tk hp =>
    (vss_cons (vs_set (i := 1) (k := 1) sc_law_draws.nd rfl (by first | exact .inl rfl | exact .inr rfl) (ve_list (k := 0) ves_nil))
    (vss_cons (vs_for hp rfl (vi_range1 (by rfl) m_range (va_cons (vo_ex (ve_callB (os_min rfl) (by rfl) m_min b_min (va_cons (vo_ex (ve_callB os_len (by rfl) m_len b_len (va_cons (vo_ex (ve_var (pv 0))) va_nil))) (va_cons (vo_ex ve_int) va_nil)))) va_nil)) (vg_name (i := 2) sc_law_draws.nd rfl (by first | exact .inl rfl | exact .inr rfl))
    (vss_cons (vs_set (i := 3) (k := 0) sc_law_draws.nd rfl (by first | exact .inl rfl | exact .inr rfl) (ve_callB os_abs (by rfl) m_abs b_abs (va_cons (vo_ex (ve_ix (os_ixA (Nat.lt_of_le_of_lt (Nat.add_le_add_left (by decide) _) hr.units)) (vo_ex (ve_var (pv 0))) (vo_ex (ve_var (pv 2))) (fun _ _ => rfl))) va_nil)))
    (vss_one (vs_if (vt_cmp os_lt (vo_ex (ve_var (pv 3))) (vo_ex (ve_bin os_pow (vo_ex ve_int) (vo_ex ve_int))) (nomark _))
    (vss_cons (vs_set (i := 4) (k := 0) sc_law_draws.nd rfl (by first | exact .inl rfl | exact .inr rfl) (ve_bin os_mod (vo_ex (ve_low (j := 0) (k := 1) (by decide) (ve_bin os_mul (vo_ex (ve_bin os_mod (vo_ex (ve_low (j := 0) (k := 1) (by decide) (ve_bin os_add (vo_ex (ve_low (j := 0) (k := 1) (by decide) (ve_bin os_add (vo_ex (ve_var (pv 3))) (vo_ex (ve_low (j := 0) (k := 1) (by decide) (ve_bin os_mul (vo_ex ve_int) (vo_ex (ve_var (pv 2))))))))) (vo_ex ve_int)))) (vo_ex ve_int))) (vo_ex ve_int)))) (vo_ex ve_int)))
    (vss_cons (vs_set (i := 4) (k := 0) sc_law_draws.nd rfl (by first | exact .inl rfl | exact .inr rfl) (ve_bin os_mod (vo_ex (ve_low (j := 0) (k := 1) (by decide) (ve_bin os_mul (vo_ex (ve_var (pv 4))) (vo_ex (ve_var (pv 4)))))) (vo_ex ve_int)))
    (vss_cons (vs_expr (k := 0) (ve_mut PySem.F.plainAttrs_list PySem.F.slot_list_append PySem.F.type_list_append om_append (pv 1) (va_cons (vo_ex (ve_bin os_mod (vo_ex (ve_bin os_fdiv (vo_ex (ve_var (pv 4))) (vo_ex ve_int))) (vo_ex ve_int))) va_nil)))
    (vss_cons (vs_expr (k := 0) (ve_mut PySem.F.plainAttrs_list PySem.F.slot_list_append PySem.F.type_list_append om_append (pv 1) (va_cons (vo_ex (ve_bin os_mod (vo_ex (ve_bin os_fdiv (vo_ex (ve_var (pv 4))) (vo_ex ve_int))) (vo_ex ve_int))) va_nil)))
    (vss_cons (vs_set (i := 4) (k := 0) sc_law_draws.nd rfl (by first | exact .inl rfl | exact .inr rfl) (ve_bin os_mod (vo_ex (ve_low (j := 0) (k := 1) (by decide) (ve_bin os_add (vo_ex (ve_var (pv 4))) (vo_ex (ve_low (j := 0) (k := 1) (by decide) (ve_bin os_mul (vo_ex ve_int) (vo_ex (ve_low (j := 0) (k := 1) (by decide) (ve_bin os_add (vo_ex (ve_var (pv 2))) (vo_ex ve_int)))))))))) (vo_ex ve_int)))
    (vss_one (vs_expr (k := 0) (ve_mut PySem.F.plainAttrs_list PySem.F.slot_list_append PySem.F.type_list_append om_append (pv 1) (va_cons (vo_ex (ve_bin os_mod (vo_ex (ve_bin os_fdiv (vo_ex (ve_bin os_mod (vo_ex (ve_low (j := 0) (k := 1) (by decide) (ve_bin os_mul (vo_ex (ve_var (pv 4))) (vo_ex (ve_var (pv 4)))))) (vo_ex ve_int))) (vo_ex ve_int))) (vo_ex ve_int))) va_nil)))))))))
    (vss_cons (vs_set (i := 5) (k := 0) sc_law_draws.nd rfl (by first | exact .inl rfl | exact .inr rfl) ve_int)
    (vss_one (vs_while hp (VW.vt (vw_and (vt_cmp os_ge (vo_ex (ve_var (pv 3))) (vo_ex ve_int) (nomark _)) (vw_and1 (vt_cmp os_lt (vo_ex (ve_var (pv 5))) (vo_ex ve_int) (nomark _)))))
    (vss_cons (vs_expr (k := 0) (ve_mut PySem.F.plainAttrs_list PySem.F.slot_list_append PySem.F.type_list_append om_append (pv 1) (va_cons (vo_ex (ve_bin os_mod (vo_ex (ve_var (pv 3))) (vo_ex ve_int))) va_nil)))
    (vss_cons (vs_set (i := 3) (k := 0) sc_law_draws.nd rfl (by first | exact .inl rfl | exact .inr rfl) (ve_bin os_fdiv (vo_ex (ve_var (pv 3))) (vo_ex ve_int)))
    (vss_one (vs_set (i := 5) (k := 0) sc_law_draws.nd rfl (by first | exact .inl rfl | exact .inr rfl) (ve_low (j := 0) (k := 1) (by decide) (ve_bin os_add (vo_ex (ve_var (pv 5))) (vo_ex ve_int))))))))))))))
    (vss_one (vs_ret (ve_slice os_slice (vo_bv (pv 1)) vpo_none (vpo_some ve_int))))))) hd
set_option maxHeartbeats 1000000 in
theorem ok_law_take {f : Addr} {fd : FuncData} {sp : VSp} (F : Fun K "_law_take" "_law_take" s_law_take f fd) (hd : DefOk [1, 0] 2 (t_law_take) sp) :
    FnG P w K mg base 1 f fd ["_law_draws_here", "_law_many_here"] (spV K [1, 0] 0 sp) :=
  def_ok (t := t_law_take) F sc_law_take rfl (by decide) (fun cdv A outer s H E hr hgd tk hp =>
    (vss_cons (vs_if (vt_cmp (os_eq hr.units) (vo_bv (pv 0)) (vo_ex (ve_low (j := 0) (k := 1) (by decide) (ve_list (k := 0) ves_nil))) (nomark _))
    (vss_one (vs_ret ve_int))
    vss_nil)
    (vss_one (vs_ret (ve_bin os_mod (vo_ex (ve_mut PySem.F.plainAttrs_list PySem.F.slot_list_pop PySem.F.type_list_pop om_pop (pv 0) (va_cons (vo_ex ve_int) va_nil))) (vo_ex (ve_var (pv 1)))))))) hd
set_option maxHeartbeats 1000000 in
theorem ok_law_whole {f : Addr} {fd : FuncData} {sp : VSp} (F : Fun K "_law_whole" "_law_whole" s_law_whole f fd) (m_isinstance : mg "isinstance" = none) (m_bool : mg "bool" = none) (m_int : mg "int" = none) (hd : DefOk [0] 1 (t_law_whole) sp) :
    FnG P w K mg base 1 f fd ["_law_thing"] (spV K [0] 0 sp) :=
  def_ok (t := t_law_whole) F sc_law_whole rfl (by decide) (fun cdv A outer s H E hr hgd tk hp =>
    (vss_one (vs_ret (ve_and (ve_isi (T := "int") (by simp) (by rfl) m_isinstance (by rfl) m_int b_int (vo_ex (ve_var (pv 0)))) (ve_one (ve_not (ve_isi (T := "bool") (by simp) (by rfl) m_isinstance (by rfl) m_bool b_bool (vo_ex (ve_var (pv 0)))))))))) hd
set_option maxHeartbeats 1000000 in
theorem ok_law_all {f : Addr} {fd : FuncData} {sp : VSp} (F : Fun K "_law_all" "_law_all" s_law_all f fd) (m_range : mg "range" = none) (m_max : mg "max" = none) (m_min : mg "min" = none) (hd : DefOk [0, 0] 8 (t_law_all) sp) :
    FnG P w K mg base 1 f fd ["_law_length", "_law_names"] (spV K [0, 0] 0 sp) :=
  def_ok (t := t_law_all) F sc_law_all rfl (by decide) (fun cdv A outer s H E hr hgd tk hp =>
    (vss_cons (vs_set (i := 2) (k := 0) sc_law_all.nd rfl (by first | exact .inl rfl | exact .inr rfl) (ve_low (j := 0) (k := 1) (by decide) (ve_list (k := 0) (ves_cons (ve_low (j := 0) (k := 1) (by decide) (ve_list (k := 0) ves_nil)) ves_nil))))
    (vss_cons (vs_for hp rfl (vi_range1 (by rfl) m_range (va_cons (vo_ex (ve_var (pv 0))) va_nil)) (vg_name (i := 3) sc_law_all.nd rfl (by first | exact .inl rfl | exact .inr rfl))
    (vss_cons (vs_set (i := 4) (k := 1) sc_law_all.nd rfl (by first | exact .inl rfl | exact .inr rfl) (ve_list (k := 0) ves_nil))
    (vss_cons (vs_for hp rfl (vi_list (ve_var (pv 2))) (vg_name (i := 5) sc_law_all.nd rfl (by first | exact .inl rfl | exact .inr rfl))
    (vss_cons (vs_set (i := 6) (k := 0) sc_law_all.nd rfl (by first | exact .inl rfl | exact .inr rfl) (ve_low (j := 0) (k := 1) (by decide) (ve_bin os_add (vo_ex (ve_callB (os_max rfl) (by rfl) m_max b_max (va_cons (vo_ex (ve_low (j := 0) (k := 1) (by decide) (ve_bin os_add (vo_ex (ve_low (j := 0) (k := 1) (by decide) (ve_list (k := 0) (ves_cons (ve_un os_neg (vo_ex ve_int)) ves_nil)))) (vo_ex (ve_var (pv 5)))))) va_nil))) (vo_ex ve_int))))
    (vss_one (vs_expr (k := 0) (ve_ext (pv 4) (va_cons (vo_fr (k := 1) (ve_lc (k := 0) (own := [("_law_at", 7)]) rfl sc_law_all.nd (vi_range1 (by rfl) m_range (va_cons (vo_ex (ve_callB (os_min rfl) (by rfl) m_min b_min (va_cons (vo_ex (ve_low (j := 0) (k := 1) (by decide) (ve_bin os_add (vo_ex (ve_var (pv 6))) (vo_ex ve_int)))) (va_cons (vo_ex (ve_var (pv 1))) va_nil)))) va_nil)) (blkOk_by (N := N_law_all) (sc := defScope s_law_all) (by decide +kernel)) (by decide) (fun _ _ _ _ _ => (vg_name (i := 7) sc_law_all.nd rfl (by first | exact .inl rfl | exact .inr rfl))) (fun _ _ _ _ _ => vts_nil) (fun _ _ _ _ _ => (ve_low (j := 0) (k := 1) (by decide) (ve_bin os_add (vo_ex (ve_var (pv 5))) (vo_ex (ve_low (j := 0) (k := 1) (by decide) (ve_list (k := 0) (ves_cons (ve_var (pv 7)) ves_nil))))))))) va_nil))))))
    (vss_one (vs_set (i := 2) (k := 0) sc_law_all.nd rfl (by first | exact .inl rfl | exact .inr rfl) (ve_frz (pv 4)))))))
    (vss_one (vs_ret (ve_var (pv 2))))))) hd
set_option maxHeartbeats 1000000 in
theorem ok_law_many {f : Addr} {fd : FuncData} {sp : VSp} (F : Fun K "_law_many" "_law_many" s_law_many f fd) (m_range : mg "range" = none) (m_sum : mg "sum" = none) (hd : DefOk [0, 0] 5 (t_law_many) sp) :
    FnG P w K mg base 1 f fd ["_law_length", "_law_names"] (spV K [0, 0] 0 sp) :=
  def_ok (t := t_law_many) F sc_law_many rfl (by decide) (fun cdv A outer s H E hr hgd tk hp =>
    (vss_cons (vs_set (i := 2) (k := 0) sc_law_many.nd rfl (by first | exact .inl rfl | exact .inr rfl) (ve_low (j := 0) (k := 1) (by decide) (ve_bin os_add (vo_ex (ve_low (j := 0) (k := 1) (by decide) (ve_list (k := 0) (ves_cons ve_int ves_nil)))) (vo_ex (ve_low (j := 0) (k := 1) (by decide) (ve_bin os_mul (vo_ex (ve_low (j := 0) (k := 1) (by decide) (ve_list (k := 0) (ves_cons ve_int ves_nil)))) (vo_ex (ve_var (pv 1)))))))))
    (vss_cons (vs_for hp rfl (vi_range1 (by rfl) m_range (va_cons (vo_ex (ve_var (pv 0))) va_nil)) (vg_name (i := 3) sc_law_many.nd rfl (by first | exact .inl rfl | exact .inr rfl))
    (vss_one (vs_set (i := 2) (k := 0) sc_law_many.nd rfl (by first | exact .inl rfl | exact .inr rfl) (ve_low (j := 0) (k := 1) (by decide) (ve_bin os_add (vo_ex (ve_low (j := 0) (k := 1) (by decide) (ve_list (k := 0) (ves_cons ve_int ves_nil)))) (vo_ex (ve_low (j := 0) (k := 1) (by decide) (ve_lc (k := 0) (own := [("_law_used", 4)]) rfl sc_law_many.nd (vi_range2 (by rfl) m_range (va_cons (vo_ex ve_int) (va_cons (vo_ex (ve_low (j := 0) (k := 1) (by decide) (ve_bin os_add (vo_ex (ve_var (pv 1))) (vo_ex ve_int)))) va_nil))) (blkOk_by (N := N_law_many) (sc := defScope s_law_many) (by decide +kernel)) (by decide) (fun _ _ _ _ _ => (vg_name (i := 4) sc_law_many.nd rfl (by first | exact .inl rfl | exact .inr rfl))) (fun _ _ _ _ _ => vts_nil) (fun _ _ _ _ _ => (ve_low (j := 0) (k := 1) (by decide) (ve_bin os_add (vo_ex (ve_low (j := 0) (k := 1) (by decide) (ve_bin os_mul (vo_ex (ve_var (pv 4))) (vo_ex (ve_ix (os_ixA (Nat.lt_of_le_of_lt (Nat.add_le_add_left (by decide) _) hr.units)) (vo_ex (ve_var (pv 2))) (vo_ex (ve_var (pv 4))) (fun _ _ => rfl)))))) (vo_ex (ve_ix (os_ixA (Nat.lt_of_le_of_lt (Nat.add_le_add_left (by decide) _) hr.units)) (vo_ex (ve_var (pv 2))) (vo_ex (ve_bin os_sub (vo_ex (ve_var (pv 4))) (vo_ex ve_int))) (fun _ _ => rfl))))))))))))))
    (vss_one (vs_ret (ve_callB (os_sum rfl) (by rfl) m_sum b_sum (va_cons (vo_ex (ve_var (pv 2))) va_nil))))))) hd
set_option maxHeartbeats 1000000 in
theorem ok_many_forms {f : Addr} {fd : FuncData} {sp : VSp} (F : Fun K "many_forms" "many_forms" s_many_forms f fd)
    {a_ways_on : Addr} {d_ways_on : FuncData} {sp_ways_on : VSp} (G_ways_on : FnG P w K mg base 1 a_ways_on d_ways_on ["length", "names"] (spV K [0, 0] 0 sp_ways_on)) (e_ways_on : mg "ways_on" = some (.ref a_ways_on)) (k_ways_on : PySem.W.keepIn K (.ref a_ways_on) = true) (b_ways_on : Binds K d_ways_on ["length", "names"] []) (hd : DefOk [0, 0] 2 (t_many_forms sp_ways_on) sp) :
    FnG P w K mg base 2 f fd ["length", "names"] (spV K [0, 0] 0 sp) :=
  def_ok (t := t_many_forms sp_ways_on) F sc_many_forms rfl (by decide) (fun cdv A outer s H E hr hgd tk hp =>
    (vss_one (vs_ret (ve_ix (os_ixA (Nat.lt_of_le_of_lt (Nat.add_le_add_left (by decide) _) hr.units)) (vo_ex (ve_ix (os_ixA (Nat.lt_of_le_of_lt (Nat.add_le_add_left (by decide) _) hr.units)) (vo_ex (ve_call (G_ways_on.mono (by decide)) hr hgd tk (by rfl) e_ways_on k_ways_on b_ways_on (va_cons (vo_ex (ve_var (pv 0))) (va_cons (vo_ex (ve_var (pv 1))) va_nil)) (by decide))) (vo_ex (ve_var (pv 0))) (fun _ _ => rfl))) (vo_ex ve_int) (fun _ _ => rfl))))) hd
set_option maxHeartbeats 1000000 in
theorem ok_law {f : Addr} {fd : FuncData} {sp : VSp} (F : Fun K "law" "law" s_law f fd)
    {a_law_draws : Addr} {d_law_draws : FuncData} {sp_law_draws : VSp} (G_law_draws : FnG P w K mg base 1 a_law_draws d_law_draws ["_law_script"] (spV K [0] 1 sp_law_draws)) (e_law_draws : mg "_law_draws" = some (.ref a_law_draws)) (k_law_draws : PySem.W.keepIn K (.ref a_law_draws) = true) (b_law_draws : Binds K d_law_draws ["_law_script"] [])
    {a_law_take : Addr} {d_law_take : FuncData} {sp_law_take : VSp} (G_law_take : FnG P w K mg base 1 a_law_take d_law_take ["_law_draws_here", "_law_many_here"] (spV K [1, 0] 0 sp_law_take)) (e_law_take : mg "_law_take" = some (.ref a_law_take)) (k_law_take : PySem.W.keepIn K (.ref a_law_take) = true) (b_law_take : Binds K d_law_take ["_law_draws_here", "_law_many_here"] [])
    {a_many_forms : Addr} {d_many_forms : FuncData} {sp_many_forms : VSp} (G_many_forms : FnG P w K mg base 2 a_many_forms d_many_forms ["length", "names"] (spV K [0, 0] 0 sp_many_forms)) (e_many_forms : mg "many_forms" = some (.ref a_many_forms)) (k_many_forms : PySem.W.keepIn K (.ref a_many_forms) = true) (b_many_forms : Binds K d_many_forms ["length", "names"] [])
    {a_law_many : Addr} {d_law_many : FuncData} {sp_law_many : VSp} (G_law_many : FnG P w K mg base 1 a_law_many d_law_many ["_law_length", "_law_names"] (spV K [0, 0] 0 sp_law_many)) (e_law_many : mg "_law_many" = some (.ref a_law_many)) (k_law_many : PySem.W.keepIn K (.ref a_law_many) = true) (b_law_many : Binds K d_law_many ["_law_length", "_law_names"] [])
    {a_law_whole : Addr} {d_law_whole : FuncData} {sp_law_whole : VSp} (G_law_whole : FnG P w K mg base 1 a_law_whole d_law_whole ["_law_thing"] (spV K [0] 0 sp_law_whole)) (e_law_whole : mg "_law_whole" = some (.ref a_law_whole)) (k_law_whole : PySem.W.keepIn K (.ref a_law_whole) = true) (b_law_whole : Binds K d_law_whole ["_law_thing"] [])
    {a_law_all : Addr} {d_law_all : FuncData} {sp_law_all : VSp} (G_law_all : FnG P w K mg base 1 a_law_all d_law_all ["_law_length", "_law_names"] (spV K [0, 0] 0 sp_law_all)) (e_law_all : mg "_law_all" = some (.ref a_law_all)) (k_law_all : PySem.W.keepIn K (.ref a_law_all) = true) (b_law_all : Binds K d_law_all ["_law_length", "_law_names"] []) (m_len : mg "len" = none) (hd : DefOk [0] 7 (t_law sp_law_draws sp_law_take sp_many_forms sp_law_many sp_law_whole sp_law_all) sp) :
    FnG P w K mg base 3 f fd ["_law_script"] (spV K [0] 0 sp) :=
  def_ok (t := t_law sp_law_draws sp_law_take sp_many_forms sp_law_many sp_law_whole sp_law_all) F sc_law rfl (by decide) (fun cdv A outer s H E hr hgd tk hp =>
    (vss_cons (vs_set (i := 1) (k := 1) sc_law.nd rfl (by first | exact .inl rfl | exact .inr rfl) (ve_call (G_law_draws.mono (by decide)) hr hgd tk (by rfl) e_law_draws k_law_draws b_law_draws (va_cons (vo_ex (ve_var (pv 0))) va_nil) (by decide)))
    (vss_cons (vs_set (i := 2) (k := 0) sc_law.nd rfl (by first | exact .inl rfl | exact .inr rfl) ve_int)
    (vss_cons (vs_while hp (VW.vt (vw_or (vt_cmp os_lt (vo_ex (ve_var (pv 2))) (vo_ex ve_int) (nomark _)) (vw_or1 (VW.vt (vw_and (vt_cmp (os_ne hr.units) (vo_bv (pv 1)) (vo_ex (ve_low (j := 0) (k := 1) (by decide) (ve_list (k := 0) ves_nil))) (nomark _)) (vw_and1 (vt_cmp os_lt (vo_ex (ve_var (pv 2))) (vo_ex ve_int) (nomark _))))))))
    (vss_cons (vs_set (i := 3) (k := 0) sc_law.nd rfl (by first | exact .inl rfl | exact .inr rfl) (ve_call (G_law_take.mono (by decide)) hr hgd tk (by rfl) e_law_take k_law_take b_law_take (va_cons (vo_bv (pv 1)) (va_cons (vo_ex ve_int) va_nil)) (by decide)))
    (vss_cons (vs_set (i := 4) (k := 0) sc_law.nd rfl (by first | exact .inl rfl | exact .inr rfl) (ve_call (G_law_take.mono (by decide)) hr hgd tk (by rfl) e_law_take k_law_take b_law_take (va_cons (vo_bv (pv 1)) (va_cons (vo_ex ve_int) va_nil)) (by decide)))
    (vss_cons (vs_set (i := 5) (k := 0) sc_law.nd rfl (by first | exact .inl rfl | exact .inr rfl) (ve_call (G_many_forms.mono (by decide)) hr hgd tk (by rfl) e_many_forms k_many_forms b_many_forms (va_cons (vo_ex (ve_var (pv 3))) (va_cons (vo_ex (ve_var (pv 4))) va_nil)) (by decide)))
    (vss_cons (vs_if (VW.vt (vw_or (vt_not (vt_tru (ve_call (G_law_whole.mono (by decide)) hr hgd tk (by rfl) e_law_whole k_law_whole b_law_whole (va_cons (vo_ex (ve_var (pv 5))) va_nil) (by decide)))) (vw_or1 (vt_cmp (os_ne hr.units) (vo_ex (ve_var (pv 5))) (vo_ex (ve_call (G_law_many.mono (by decide)) hr hgd tk (by rfl) e_law_many k_law_many b_law_many (va_cons (vo_ex (ve_var (pv 3))) (va_cons (vo_ex (ve_var (pv 4))) va_nil)) (by decide))) (nomark _)))))
    (vss_one (vs_ret ve_bl))
    vss_nil)
    (vss_cons (vs_set (i := 6) (k := 0) sc_law.nd rfl (by first | exact .inl rfl | exact .inr rfl) (ve_call (G_law_take.mono (by decide)) hr hgd tk (by rfl) e_law_take k_law_take b_law_take (va_cons (vo_bv (pv 1)) (va_cons (vo_ex ve_int) va_nil)) (by decide)))
    (vss_cons (vs_set (i := 4) (k := 0) sc_law.nd rfl (by first | exact .inl rfl | exact .inr rfl) (ve_call (G_law_take.mono (by decide)) hr hgd tk (by rfl) e_law_take k_law_take b_law_take (va_cons (vo_bv (pv 1)) (va_cons (vo_ex ve_int) va_nil)) (by decide)))
    (vss_cons (vs_if (vt_cmp (os_ne hr.units) (vo_ex (ve_call (G_many_forms.mono (by decide)) hr hgd tk (by rfl) e_many_forms k_many_forms b_many_forms (va_cons (vo_ex (ve_var (pv 6))) (va_cons (vo_ex (ve_var (pv 4))) va_nil)) (by decide))) (vo_ex (ve_callB os_len (by rfl) m_len b_len (va_cons (vo_ex (ve_call (G_law_all.mono (by decide)) hr hgd tk (by rfl) e_law_all k_law_all b_law_all (va_cons (vo_ex (ve_var (pv 6))) (va_cons (vo_ex (ve_var (pv 4))) va_nil)) (by decide))) va_nil))) (nomark _))
    (vss_one (vs_ret ve_bl))
    vss_nil)
    (vss_one (vs_set (i := 2) (k := 0) sc_law.nd rfl (by first | exact .inl rfl | exact .inr rfl) (ve_low (j := 0) (k := 1) (by decide) (ve_bin os_add (vo_ex (ve_var (pv 2))) (vo_ex ve_int)))))))))))))
    (vss_one (vs_ret (ve_and (ve_cmp (os_eq hr.units) (vo_ex (ve_call (G_many_forms.mono (by decide)) hr hgd tk (by rfl) e_many_forms k_many_forms b_many_forms (va_cons (vo_ex ve_int) (va_cons (vo_ex ve_int) va_nil)) (by decide))) (vo_ex ve_int) (nomark _)) (ve_and (ve_cmp (os_eq hr.units) (vo_ex (ve_call (G_many_forms.mono (by decide)) hr hgd tk (by rfl) e_many_forms k_many_forms b_many_forms (va_cons (vo_ex ve_int) (va_cons (vo_ex ve_int) va_nil)) (by decide))) (vo_ex ve_int) (nomark _)) (ve_one (ve_cmp (os_eq hr.units) (vo_ex (ve_call (G_many_forms.mono (by decide)) hr hgd tk (by rfl) e_many_forms k_many_forms b_many_forms (va_cons (vo_ex ve_int) (va_cons (vo_ex ve_int) va_nil)) (by decide))) (vo_ex (ve_call (G_law_many.mono (by decide)) hr hgd tk (by rfl) e_law_many k_law_many b_law_many (va_cons (vo_ex ve_int) (va_cons (vo_ex ve_int) va_nil)) (by decide))) (nomark _))))))))))) hd
end
end K43
end VL

namespace VL
namespace K43
open PySem L2 PySem.Spec PyProof.Rows
local macro_rules
  | `(tactic| and_intros) => `(tactic| try simp only [vK, vVar, vFrz, vMov, vBv, vNil, vCons, vApp, opGets, vFlat, vRecv, recvTy, tyD, vNoP, vPart, asI, vSl, vList, vTup, asB, vTB, truD, vTru, vNotT, vAndT, vOrT, vNotV, vAndV, vOrV, vIfE, vNext, vSeq, vBreak, vCont, vDrop, vRet, vRetN, vIf, vSet, vAug,
    vgName, vgNil, vgCons, vgTup, vAsg, vYes, vMut, vExt, isC, vCall, cargs, couts, free_eq, frO_some, fr_un, fr_vr, flat, startE, startC, outsE, wipeE, opI2, opI2c, opSub, opFdiv, opMod, opPow, opNeg, opOrd, opLt, opLe, opGt, opGe, opMul, opAdd, opEq, opNe, opIs, opIsNot, opIxA, opIx, opSl, opLen, opInt, opAbs, opMax, opMin, opSum, opList, opTuple, opStr, opRepr, opIsi, opFind, opUpper, opJoin, opSplit, opGet, opInA, opIn, opPop, opClear, opAppend,
    List.getElem?_cons_succ, List.getElem?_cons_zero, List.set_cons_succ, List.set_cons_zero, List.replicate_succ, List.replicate_zero, List.cons_append, List.nil_append, List.append_nil, List.length_cons, List.length_nil, Nat.sub_zero, Nat.zero_add, Nat.add_zero, Nat.reduceAdd, Nat.reduceSub,
    true_and, and_true, or_true, true_or, ite_true, ite_false, reduceIte, Bool.true_eq_false, Bool.false_eq_true, Nat.le_refl, isTy, vLc_eq, vFor_eq, srcL, srcT, srcS, srcR1, srcR2, srcR3, srcEL, srcZL, List.mem_cons, List.not_mem_nil, or_false, forall_eq, decide_eq_true_eq, Bool.not_eq_true', decide_eq_false_iff_not])
local macro_rules
  | `(tactic| subst_eqs) => `(tactic| repeat (refine And.intro (by first | assumption | exact True.intro | rfl | omega | exact cdiv (by decide) (by decide) | exact cmulL (by omega) (by omega) | exact cmulR (by omega) (by omega) | decide | exact sized' (by omega) | exact sized (by omega) | (simp only [List.length_append, List.length_map, List.length_cons, List.length_nil]; exact sized' (by omega)) | (simp only [List.length_append, List.length_map, List.length_cons, List.length_nil]; exact sized (by omega)) | exact Or.inl (by omega) | (refine And.intro ?_ ?_ <;> first | assumption | omega | decide)) ?_))
local macro_rules
  | `(tactic| injections) => `(tactic| try simp only [vK, vVar, vFrz, vMov, vBv, vNil, vCons, vApp, opGets, vFlat, vRecv, recvTy, tyD, vNoP, vPart, asI, vSl, vList, vTup, asB, vTB, truD, vTru, vNotT, vAndT, vOrT, vNotV, vAndV, vOrV, vIfE, vNext, vBreak, vCont, vDrop, vRet, vRetN, vIf, vSet, vAug,
    vgName, vgNil, vgCons, vgTup, vAsg, vYes, vMut, vExt, isC, vCall_eq, cargs, couts, free_eq, frO_some, fr_un, fr_vr, flat, startE, startC, outsE, wipeE, opI2, opI2c, opSub, opFdiv, opMod, opPow, opNeg, opOrd, opLt, opLe, opGt, opGe, opMul, opAdd, opEq, opNe, opIs, opIsNot, opIxA, opIx, opSl, opLen, opInt, opAbs, opMax, opMin, opSum, opList, opTuple, opStr, opRepr, opIsi, opFind, opUpper, opJoin, opSplit, opGet, opInA, opIn, opPop, opClear, opAppend,
    List.getElem?_cons_succ, List.getElem?_cons_zero, List.set_cons_succ, List.set_cons_zero, List.replicate_succ, List.replicate_zero, List.cons_append, List.nil_append, List.append_nil, List.length_cons, List.length_nil, Nat.sub_zero, Nat.zero_add, Nat.add_zero, Nat.reduceAdd, Nat.reduceSub,
    true_and, and_true, or_true, true_or, ite_true, ite_false, reduceIte, Bool.true_eq_false, Bool.false_eq_true, Nat.le_refl, isTy, vLc_eq, vFor_eq, srcL, srcT, srcS, srcR1, srcR2, srcR3, srcEL, srcZL, List.mem_cons, List.not_mem_nil, or_false, forall_eq, decide_eq_true_eq, Bool.not_eq_true', decide_eq_false_iff_not])
theorem pop0 {ns : List Int} {n : Int} : seqIndex? 0 ((n :: ns).map PyData.int).length = some 0 := by
  unfold seqIndex?
  simp
def sp_law_take : VSp := fun ds Q _ => ∃ (ns : List D) (m : Int), ds = [.list ns, .int m] ∧ IntsD ns ∧ 0 < m ∧ ∀ (r : Int) (ns' : List D), 0 ≤ r → r < m → IntsD ns' → ns'.length = ns.length - 1 → Q (.int r) [.list ns', .none]
theorem hd_law_take : DefOk [1, 0] 2 t_law_take sp_law_take := by
  intro ds Qc Xc ⟨ns0, m, e, ⟨ns, e2⟩, hm, q⟩
  subst e e2
  refine ⟨rfl, ?_⟩
  unfold t_law_take
  and_intros
  refine ⟨by decide, ⟨sh_ints ns, sh_nil⟩, ?_⟩
  rw [eqv_nil]
  cases ns with
  | nil => exact q 0 [] (by omega) hm intsD_nil rfl
  | cons n ns =>
    refine ⟨by decide, 0, .int n, pop0, rfl, ?_⟩
    and_intros
    exact ⟨hm, q _ _ (Int.emod_nonneg _ (by omega)) (Int.emod_lt_of_pos _ hm) (intsD_map ns) (by simp)⟩
def sp_law_whole : VSp := fun ds Q _ => ∃ d, ds = [d] ∧ (∀ b, (∀ i, d = .int i → b = true) → Q (.bool b) [.none])
theorem hd_law_whole : DefOk [0] 1 t_law_whole sp_law_whole := by
  intro ds Qc Xc ⟨d, e, q⟩
  subst e
  refine ⟨rfl, ?_⟩
  unfold t_law_whole
  and_intros
  split
  · exact q _ fun i e => by subst e; rfl
  · exact q _ fun i e => by subst e; simp_all [tyName]
def sp_law_draws : VSp := fun ds Q _ => ∃ ns : List Int, ds = [.list (ns.map .int)] ∧ ns.length ≤ 63 ∧ ∀ ms, IntsD ms → Q (.list ms) [.none]
theorem hd_law_draws : DefOk [0] 6 t_law_draws sp_law_draws := by
  intro ds Qc Xc ⟨ns, e, hl, q⟩
  subst e
  refine ⟨rfl, ?_⟩
  unfold t_law_draws
  and_intros
  simp only [List.length_map]
  have hN : ∀ i : Nat, i < (if 80 < (ns.length : Int) then (80 : Int) else (ns.length : Int)).toNat → i < ns.length := fun i h => by split at h <;> omega
  refine ⟨by decide, by split <;> omega, ?_⟩
  refine ForIn.of (fun i e => ∃ (ms : List D) (c2 c3 c4 c5 : Cell), e = [.vr false 0 (.list (ns.map .int)), .vr false 1 (.list ms), c2, c3, c4, c5] ∧ (Fr c2 ∧ Fr c3 ∧ Fr c4 ∧ Fr c5) ∧ IntsD ms ∧ ms.length ≤ 60 * i)
    ⟨[], _, _, _, _, rfl, ⟨trivial, trivial, trivial, trivial⟩, intsD_nil, by simp⟩ (fun i x e hx hI => ?_) (fun e hI => ?_)
  · obtain ⟨ms, c2, c3, c4, c5, rfl, ⟨f2, f3, f4, f5⟩, hms, hln⟩ := hI
    obtain ⟨hi, rfl⟩ := upto_get hx
    have hi' := hN i hi
    and_intros
    refine ⟨f2, .int ns[i], ?_, ?_⟩
    · have := atI_nat (xs := ns.map PyData.int) (j := i) (v := .int ns[i]) (by simp [hi'])
      simpa using this
    and_intros
    generalize (if ns[i] < 0 then -ns[i] else ns[i]) = a
    refine ⟨f3, ⟨by decide, by decide, by decide⟩, ?_⟩
    split
    · subst_eqs
      exact ⟨_, _, _, _, _, rfl, ⟨trivial, trivial, trivial, f5⟩, ((hms.snoc _).snoc _).snoc _, by simp only [List.length_append, List.length_cons, List.length_nil]; omega⟩
    · refine ⟨f5, ?_⟩
      refine ⟨fun m e => ∃ (ms' : List D) (b : Int) (c : Nat), e = [.vr false 0 (.list (ns.map .int)), .vr false 1 (.list ms'), .vr false 0 (.int (0 + (i : Int))), .vr false 0 (.int b), c4, .vr false 0 (.int (c : Nat))] ∧ IntsD ms' ∧ c ≤ 60 ∧ ms'.length ≤ 60 * i + c ∧ m = 60 - c,
        ⟨_, ms, a, 0, rfl, hms, by omega, by omega, rfl⟩, fun m e hJ => ?_⟩
      obtain ⟨ms', b, c, rfl, h1, h2, h3, rfl⟩ := hJ
      and_intros
      split
      · split
        · rename_i _ hc
          subst_eqs
          exact ⟨60 - (c + 1), by omega, _, _, c + 1, rfl, h1.snoc _, by omega, by simp only [List.length_append, List.length_cons, List.length_nil]; omega, rfl⟩
        · exact ⟨_, _, _, _, _, rfl, ⟨trivial, trivial, f4, trivial⟩, h1, by omega⟩
      · exact ⟨_, _, _, _, _, rfl, ⟨trivial, trivial, f4, trivial⟩, h1, by omega⟩
  · obtain ⟨ms, c2, c3, c4, c5, rfl, ⟨f2, f3, f4, f5⟩, hms, hln⟩ := hI
    and_intros
    exact q _ (hms.cut _ _)
end K43
end VL

namespace VL
namespace K43
open PySem L2 PySem.Spec PyProof.Rows
local macro_rules
  | `(tactic| and_intros) => `(tactic| try simp only [vK, vVar, vFrz, vMov, vBv, vNil, vCons, vApp, opGets, vFlat, vRecv, recvTy, tyD, vNoP, vPart, asI, vSl, vList, vTup, asB, vTB, truD, vTru, vNotT, vAndT, vOrT, vNotV, vAndV, vOrV, vIfE, vNext, vSeq, vBreak, vCont, vDrop, vRet, vRetN, vIf, vSet, vAug,
    vgName, vgNil, vgCons, vgTup, vAsg, vYes, vMut, vExt, isC, vCall, cargs, couts, free_eq, frO_some, fr_un, fr_vr, flat, startE, startC, outsE, wipeE, opI2, opI2c, opSub, opFdiv, opMod, opPow, opNeg, opOrd, opLt, opLe, opGt, opGe, opMul, opAdd, opEq, opNe, opIs, opIsNot, opIxA, opIx, opSl, opLen, opInt, opAbs, opMax, opMin, opSum, opList, opTuple, opStr, opRepr, opIsi, opFind, opUpper, opJoin, opSplit, opGet, opInA, opIn, opPop, opClear, opAppend,
    List.getElem?_cons_succ, List.getElem?_cons_zero, List.set_cons_succ, List.set_cons_zero, List.replicate_succ, List.replicate_zero, List.cons_append, List.nil_append, List.append_nil, List.length_cons, List.length_nil, Nat.sub_zero, Nat.zero_add, Nat.add_zero, Nat.reduceAdd, Nat.reduceSub,
    true_and, and_true, or_true, true_or, ite_true, ite_false, reduceIte, Bool.true_eq_false, Bool.false_eq_true, Nat.le_refl, isTy, vLc_eq, vFor_eq, srcL, srcT, srcS, srcR1, srcR2, srcR3, srcEL, srcZL, List.mem_cons, List.not_mem_nil, or_false, forall_eq, decide_eq_true_eq, Bool.not_eq_true', decide_eq_false_iff_not])
local macro_rules
  | `(tactic| subst_eqs) => `(tactic| repeat (refine And.intro (by first | assumption | exact True.intro | rfl | omega | exact cdiv (by decide) (by decide) | exact cmulL (by omega) (by omega) | exact cmulR (by omega) (by omega) | decide | exact sized' (by omega) | exact sized (by omega) | (simp only [List.length_append, List.length_map, List.length_cons, List.length_nil]; exact sized' (by omega)) | (simp only [List.length_append, List.length_map, List.length_cons, List.length_nil]; exact sized (by omega)) | exact Or.inl (by omega) | (refine And.intro ?_ ?_ <;> first | assumption | omega | decide)) ?_))
local macro_rules
  | `(tactic| injections) => `(tactic| try simp only [vK, vVar, vFrz, vMov, vBv, vNil, vCons, vApp, opGets, vFlat, vRecv, recvTy, tyD, vNoP, vPart, asI, vSl, vList, vTup, asB, vTB, truD, vTru, vNotT, vAndT, vOrT, vNotV, vAndV, vOrV, vIfE, vNext, vBreak, vCont, vDrop, vRet, vRetN, vIf, vSet, vAug,
    vgName, vgNil, vgCons, vgTup, vAsg, vYes, vMut, vExt, isC, vCall_eq, cargs, couts, free_eq, frO_some, fr_un, fr_vr, flat, startE, startC, outsE, wipeE, opI2, opI2c, opSub, opFdiv, opMod, opPow, opNeg, opOrd, opLt, opLe, opGt, opGe, opMul, opAdd, opEq, opNe, opIs, opIsNot, opIxA, opIx, opSl, opLen, opInt, opAbs, opMax, opMin, opSum, opList, opTuple, opStr, opRepr, opIsi, opFind, opUpper, opJoin, opSplit, opGet, opInA, opIn, opPop, opClear, opAppend,
    List.getElem?_cons_succ, List.getElem?_cons_zero, List.set_cons_succ, List.set_cons_zero, List.replicate_succ, List.replicate_zero, List.cons_append, List.nil_append, List.append_nil, List.length_cons, List.length_nil, Nat.sub_zero, Nat.zero_add, Nat.add_zero, Nat.reduceAdd, Nat.reduceSub,
    true_and, and_true, or_true, true_or, ite_true, ite_false, reduceIte, Bool.true_eq_false, Bool.false_eq_true, Nat.le_refl, isTy, vLc_eq, vFor_eq, srcL, srcT, srcS, srcR1, srcR2, srcR3, srcEL, srcZL, List.mem_cons, List.not_mem_nil, or_false, forall_eq, decide_eq_true_eq, Bool.not_eq_true', decide_eq_false_iff_not])
/-! ### the program: forms counted row by row -/
def Fw (n : Nat) : Nat → Nat → Int
  | 0, _ => 1
  | k + 1, u => (u : Int) * Fw n k u + (if u < n then 1 else 0) * Fw n k (u + 1)
def rowW (n k : Nat) : List Int := (List.range (n + 1)).map (Fw n k) ++ [if k = 0 then 1 else 0]
def rowD (n k : Nat) : D := .list ((rowW n k).map PyData.int)
theorem row0 (n : Nat) : (List.replicate (n + 2) [PyData.int 1]).flatten = (rowW n 0).map PyData.int := by
  have h1 : ∀ m : Nat, (List.replicate m [PyData.int 1]).flatten = List.replicate m (PyData.int 1) := fun m => by
    induction m with
    | zero => rfl
    | succ m ih => rw [List.replicate_succ, List.flatten_cons, ih, List.replicate_succ]; rfl
  have h2 : ∀ m : Nat, (List.range m).map (Fw n 0) = List.replicate m 1 := fun m => by
    apply List.ext_getElem
    · simp
    · intro i a b
      simp [Fw]
  rw [h1, rowW, h2, if_pos rfl, List.map_append, List.map_replicate, List.replicate_succ']
  rfl
theorem row_at {n k u : Nat} (h : u ≤ n) : (rowW n k)[u]? = some (Fw n k u) := by
  unfold rowW
  rw [List.getElem?_append_left (by simp; omega), List.getElem?_map, List.getElem?_range (by omega)]
  rfl
theorem row_end (n k : Nat) : (rowW n k)[n + 1]? = some (if k = 0 then 1 else 0) := by
  unfold rowW
  rw [List.getElem?_append_right (by simp)]
  simp
theorem row_succ {n k u : Nat} (h : u ≤ n) : ∃ z, (rowW n k)[u + 1]? = some z ∧ Fw n (k + 1) u = (u : Int) * Fw n k u + (if u < n then 1 else 0) * z := by
  by_cases hu : u = n
  · subst hu
    exact ⟨_, row_end _ _, by simp [Fw]⟩
  · exact ⟨_, row_at (by omega), rfl⟩
theorem atI_nat' {α : Type} {xs : List α} {j : Nat} {i : Int} {v : α} (h : xs[j]? = some v) (e : i = (j : Int)) : atI xs i = some v := by
  rw [e]; exact atI_nat h
theorem ints_at {ns : List Int} {j : Nat} {i z : Int} (h : ns[j]? = some z) (e : i = (j : Int)) : atI (ns.map PyData.int) i = some (.int z) := atI_nat' (by rw [List.getElem?_map, h]; rfl) e
theorem row_next (n k m : Nat) (h : m = n + 1 := by omega) : PyData.list ((List.range m).map (fun u => PyData.int (Fw n (k + 1) u)) ++ [PyData.int 0]) = rowD n (k + 1) := by
  subst h
  unfold rowD rowW
  simp
def sp_ways_on : VSp := fun ds Q _ => ∃ l n : Nat, ds = [.int l, .int n] ∧ l ≤ 40 ∧ n ≤ 40 ∧ Q (.list ((List.range (l + 1)).map (rowD n))) [.none, .none]
theorem hd_ways_on : DefOk [0, 0] 6 t_ways_on sp_ways_on := by
  intro ds Qc Xc ⟨l, n, e, hl, hn, q⟩
  subst e
  refine ⟨rfl, ?_⟩
  unfold t_ways_on
  and_intros
  have e2 : ((n : Int) + 2).toNat = n + 2 := by omega
  refine ⟨by decide, ⟨by omega, by omega, by rw [e2]; exact sized (by omega)⟩, by decide, ⟨by omega, by omega⟩, ?_⟩
  rw [e2, row0]
  refine ForIn.of (fun i e => ∃ c3 c4 : Cell, e = [.vr false 0 (.int l), .vr false 0 (.int n), .vr false 1 (.list ((List.range (i + 1)).map (rowD n))), c3, c4, .un] ∧ Fr c3 ∧ Fr c4)
    ⟨_, _, rfl, trivial, trivial⟩ (fun i x e hx hI => ?_) (fun e hI => ?_)
  · obtain ⟨c3, c4, rfl, f3, f4⟩ := hI
    obtain ⟨hi, rfl⟩ := upto_get hx
    have hi' : i < l := by omega
    and_intros
    refine ⟨f3, rowD n i, ?_, f4, ?_⟩
    · rw [List.range_succ, List.map_append]; exact atI_last _ _
    rw [show rowD n i = .list ((rowW n i).map PyData.int) from rfl]
    refine ⟨⟨by omega, by omega⟩, by rw [upto_len]; exact sized (by omega), ?_⟩
    refine LcIn.map (fun u => .int (Fw n (i + 1) u)) rfl (fun u x hx Q' hq => ?_) ?_
    · obtain ⟨hu, rfl⟩ := upto_get hx
      have hu' : u ≤ n := by omega
      obtain ⟨z, h1, h2⟩ := row_succ (k := i) hu'
      and_intros
      refine ⟨_, ints_at (row_at hu') (by omega), ?_⟩
      and_intros
      refine ⟨cmulL (by omega) (by omega), _, ints_at h1 (by omega), ?_⟩
      and_intros
      have e3 : ((0 : Int) + (u : Int) < (n : Int)) = (u < n) := propext ⟨fun h => by omega, fun h => by omega⟩
      simp only [e3]
      refine ⟨cmulL (by split <;> omega) (by split <;> omega), ?_⟩
      rw [h2] at hq
      simpa using hq
    · and_intros
      refine ⟨by decide, by simp only [List.length_map, List.length_range, upto_len]; exact sized (by omega), by simp only [List.length_map, List.length_range]; exact sized' (by omega), .vr false 0 (.int (0 + (i : Int))), .vr false 0 (.list ((rowW n i).map PyData.int)), ?_, trivial, trivial⟩
      rw [upto_len, row_next n i _ (by omega), List.range_succ (n := i + 1), List.map_append]
      rfl
  · obtain ⟨c3, c4, rfl, f3, f4⟩ := hI
    and_intros
    rw [upto_len]
    exact q
def sp_many_forms : VSp := fun ds Q _ => ∃ l n : Nat, ds = [.int l, .int n] ∧ l ≤ 40 ∧ n ≤ 40 ∧ Q (.int (Fw n l 0)) [.none, .none]
theorem hd_many_forms : DefOk [0, 0] 2 (t_many_forms sp_ways_on) sp_many_forms := by
  intro ds Qc Xc ⟨l, n, e, hl, hn, q⟩
  subst e
  refine ⟨rfl, ?_⟩
  unfold t_many_forms
  and_intros
  refine ⟨l, n, rfl, hl, hn, ?_⟩
  and_intros
  refine ⟨rowD n l, atI_nat' (j := l) (by simp) rfl, ?_⟩
  unfold rowD
  and_intros
  exact ⟨_, ints_at (row_at (Nat.zero_le _)) rfl, q⟩
end K43
end VL

namespace VL
namespace K43
open PySem L2 PySem.Spec PyProof.Rows
local macro_rules
  | `(tactic| and_intros) => `(tactic| try simp only [vK, vVar, vFrz, vMov, vBv, vNil, vCons, vApp, opGets, vFlat, vRecv, recvTy, tyD, vNoP, vPart, asI, vSl, vList, vTup, asB, vTB, truD, vTru, vNotT, vAndT, vOrT, vNotV, vAndV, vOrV, vIfE, vNext, vSeq, vBreak, vCont, vDrop, vRet, vRetN, vIf, vSet, vAug,
    vgName, vgNil, vgCons, vgTup, vAsg, vYes, vMut, vExt, isC, vCall, cargs, couts, free_eq, frO_some, fr_un, fr_vr, flat, startE, startC, outsE, wipeE, opI2, opI2c, opSub, opFdiv, opMod, opPow, opNeg, opOrd, opLt, opLe, opGt, opGe, opMul, opAdd, opEq, opNe, opIs, opIsNot, opIxA, opIx, opSl, opLen, opInt, opAbs, opMax, opMin, opSum, opList, opTuple, opStr, opRepr, opIsi, opFind, opUpper, opJoin, opSplit, opGet, opInA, opIn, opPop, opClear, opAppend,
    List.getElem?_cons_succ, List.getElem?_cons_zero, List.set_cons_succ, List.set_cons_zero, List.replicate_succ, List.replicate_zero, List.cons_append, List.nil_append, List.append_nil, List.length_cons, List.length_nil, Nat.sub_zero, Nat.zero_add, Nat.add_zero, Nat.reduceAdd, Nat.reduceSub,
    true_and, and_true, or_true, true_or, ite_true, ite_false, reduceIte, Bool.true_eq_false, Bool.false_eq_true, Nat.le_refl, isTy, vLc_eq, vFor_eq, srcL, srcT, srcS, srcR1, srcR2, srcR3, srcEL, srcZL, List.mem_cons, List.not_mem_nil, or_false, forall_eq, decide_eq_true_eq, Bool.not_eq_true', decide_eq_false_iff_not])
local macro_rules
  | `(tactic| subst_eqs) => `(tactic| repeat (refine And.intro (by first | assumption | exact True.intro | rfl | omega | exact cdiv (by decide) (by decide) | exact cmulL (by omega) (by omega) | exact cmulR (by omega) (by omega) | decide | exact sized' (by omega) | exact sized (by omega) | (simp only [List.length_append, List.length_map, List.length_cons, List.length_nil]; exact sized' (by omega)) | (simp only [List.length_append, List.length_map, List.length_cons, List.length_nil]; exact sized (by omega)) | exact Or.inl (by omega) | (refine And.intro ?_ ?_ <;> first | assumption | omega | decide)) ?_))
local macro_rules
  | `(tactic| injections) => `(tactic| try simp only [vK, vVar, vFrz, vMov, vBv, vNil, vCons, vApp, opGets, vFlat, vRecv, recvTy, tyD, vNoP, vPart, asI, vSl, vList, vTup, asB, vTB, truD, vTru, vNotT, vAndT, vOrT, vNotV, vAndV, vOrV, vIfE, vNext, vBreak, vCont, vDrop, vRet, vRetN, vIf, vSet, vAug,
    vgName, vgNil, vgCons, vgTup, vAsg, vYes, vMut, vExt, isC, vCall_eq, cargs, couts, free_eq, frO_some, fr_un, fr_vr, flat, startE, startC, outsE, wipeE, opI2, opI2c, opSub, opFdiv, opMod, opPow, opNeg, opOrd, opLt, opLe, opGt, opGe, opMul, opAdd, opEq, opNe, opIs, opIsNot, opIxA, opIx, opSl, opLen, opInt, opAbs, opMax, opMin, opSum, opList, opTuple, opStr, opRepr, opIsi, opFind, opUpper, opJoin, opSplit, opGet, opInA, opIn, opPop, opClear, opAppend,
    List.getElem?_cons_succ, List.getElem?_cons_zero, List.set_cons_succ, List.set_cons_zero, List.replicate_succ, List.replicate_zero, List.cons_append, List.nil_append, List.append_nil, List.length_cons, List.length_nil, Nat.sub_zero, Nat.zero_add, Nat.add_zero, Nat.reduceAdd, Nat.reduceSub,
    true_and, and_true, or_true, true_or, ite_true, ite_false, reduceIte, Bool.true_eq_false, Bool.false_eq_true, Nat.le_refl, isTy, vLc_eq, vFor_eq, srcL, srcT, srcS, srcR1, srcR2, srcR3, srcEL, srcZL, List.mem_cons, List.not_mem_nil, or_false, forall_eq, decide_eq_true_eq, Bool.not_eq_true', decide_eq_false_iff_not])
/-! ### the plain law: both countings agree -/
def sumN (f : Nat → Int) : Nat → Int
  | 0 => 0
  | n + 1 => sumN f n + f n
theorem sumN_congr {f g : Nat → Int} : ∀ {n : Nat}, (∀ u, u < n → f u = g u) → sumN f n = sumN g n
  | 0, _ => rfl
  | n + 1, h => by
    rw [sumN, sumN, sumN_congr fun u hu => h u (by omega), h n (by omega)]
theorem sumN_list (f : Nat → Int) : ∀ n : Nat, ((List.range n).map f).sum = sumN f n
  | 0 => rfl
  | n + 1 => by rw [List.range_succ, List.map_append, List.sum_append, sumN_list f n]; simp [sumN]
def Sm : Nat → Nat → Int
  | 0, u => if u = 0 then 1 else 0
  | _ + 1, 0 => 0
  | k + 1, u + 1 => ((u + 1 : Nat) : Int) * Sm k (u + 1) + Sm k u
def Sp (s : Nat → Int) : Nat → Int
  | 0 => 0
  | u + 1 => s u
theorem Sm_succ (k u : Nat) : Sm (k + 1) u = (u : Int) * Sm k u + Sp (Sm k) u := by
  cases u with
  | zero => simp [Sm, Sp]
  | succ u => simp [Sm, Sp]
theorem shift (s f : Nat → Int) : ∀ m : Nat, sumN (fun u => s u * ((u : Int) * f u + f (u + 1))) m = sumN (fun u => ((u : Int) * s u + Sp s u) * f u) m + Sp s m * f m
  | 0 => by simp [sumN, Sp]
  | m + 1 => by
    rw [sumN, sumN, shift s f m]
    show _ = _ + s m * f (m + 1)
    grind
theorem turn_count (n k l : Nat) : sumN (fun u => Sm k u * Fw n (l + 1) u) (n + 1) = sumN (fun u => Sm (k + 1) u * Fw n l u) (n + 1) := by
  have h1 : sumN (fun u => Sm k u * Fw n (l + 1) u) n = sumN (fun u => Sm k u * ((u : Int) * Fw n l u + Fw n l (u + 1))) n := sumN_congr fun u hu => by simp [Fw, hu]
  have h2 : sumN (fun u => Sm (k + 1) u * Fw n l u) n = sumN (fun u => ((u : Int) * Sm k u + Sp (Sm k) u) * Fw n l u) n := sumN_congr fun u hu => by rw [Sm_succ]
  rw [sumN, sumN, h1, h2, shift, Sm_succ]
  have h3 : Fw n (l + 1) n = (n : Int) * Fw n l n := by simp [Fw]
  rw [h3]
  grind
theorem both_count (n : Nat) : ∀ l k : Nat, sumN (fun u => Sm k u * Fw n l u) (n + 1) = sumN (Sm (k + l)) (n + 1)
  | 0, k => sumN_congr fun u _ => by simp [Fw]
  | l + 1, k => by rw [turn_count, both_count n l (k + 1)]; congr 2; omega
theorem start_sum (f : Nat → Int) : ∀ n : Nat, sumN (fun u => (if u = 0 then 1 else 0) * f u) (n + 1) = f 0
  | 0 => by simp [sumN]
  | n + 1 => by rw [sumN, start_sum f n]; simp
theorem counted (n l : Nat) : sumN (Sm l) (n + 1) = Fw n l 0 := by
  have h := both_count n l 0
  rw [Nat.zero_add] at h
  rw [← h]
  exact start_sum (Fw n l) n
def rowM (n k : Nat) : List Int := (List.range (n + 1)).map (Sm k)
theorem rowM0 (n : Nat) : [PyData.int 1] ++ (List.replicate n [PyData.int 0]).flatten = (rowM n 0).map PyData.int := by
  have h1 : ∀ m : Nat, (List.replicate m [PyData.int 0]).flatten = List.replicate m (PyData.int 0) := fun m => by
    induction m with
    | zero => rfl
    | succ m ih => rw [List.replicate_succ, List.flatten_cons, ih, List.replicate_succ]; rfl
  rw [h1]
  apply List.ext_getElem
  · simp [rowM]
  · intro i a b
    cases i with
    | zero => simp [rowM, Sm]
    | succ i => simp [rowM, Sm]
theorem rowM_at {n k u : Nat} (h : u ≤ n) : (rowM n k)[u]? = some (Sm k u) := by
  unfold rowM
  rw [List.getElem?_map, List.getElem?_range (by omega)]
  rfl
theorem rowM_next (n k : Nat) : [PyData.int 0] ++ (List.range n).map (fun u => PyData.int (Sm (k + 1) (u + 1))) = (rowM n (k + 1)).map PyData.int := by
  apply List.ext_getElem
  · simp [rowM]
  · intro i a b
    cases i with
    | zero => simp [rowM, Sm]
    | succ i => simp [rowM]
def sp_law_many : VSp := fun ds Q _ => ∃ l n : Nat, ds = [.int l, .int n] ∧ l ≤ 40 ∧ n ≤ 40 ∧ Q (.int (Fw n l 0)) [.none, .none]
theorem hd_law_many : DefOk [0, 0] 5 t_law_many sp_law_many := by
  intro ds Qc Xc ⟨l, n, e, hl, hn, q⟩
  subst e
  refine ⟨rfl, ?_⟩
  unfold t_law_many
  and_intros
  have e2 : (n : Int).toNat = n := by omega
  rw [e2]
  have hlen : (List.replicate n [PyData.int 0]).flatten.length = n := by simp
  refine ⟨by decide, by decide, ⟨by omega, by omega, sized (by omega)⟩, by rw [hlen]; exact sized (by omega), ⟨by omega, by omega⟩, ?_⟩
  rw [show (PyData.int 1 :: (List.replicate n [PyData.int 0]).flatten) = (rowM n 0).map PyData.int from rowM0 n]
  refine ForIn.of (fun i e => ∃ c3 : Cell, e = [.vr false 0 (.int l), .vr false 0 (.int n), .vr false 0 (.list ((rowM n i).map PyData.int)), c3, .un] ∧ Fr c3) ⟨_, rfl, trivial⟩ (fun i x e hx hI => ?_) (fun e hI => ?_)
  · obtain ⟨c3, rfl, f3⟩ := hI
    obtain ⟨hi, rfl⟩ := upto_get hx
    and_intros
    have e3 : ((n : Int) + 1 - 1).toNat = n := by omega
    rw [e3]
    refine ⟨f3, by decide, ⟨by decide, by decide, by omega, by omega⟩, by rw [upto_len]; exact sized (by omega), ?_⟩
    refine LcIn.map (fun u => .int (Sm (i + 1) (u + 1))) rfl (fun u x hx Q' hq => ?_) ?_
    · obtain ⟨hu, rfl⟩ := upto_get hx
      and_intros
      refine ⟨_, ints_at (rowM_at (u := u + 1) (by omega)) (by omega), ?_⟩
      and_intros
      refine ⟨cmulL (by omega) (by omega), _, ints_at (rowM_at (u := u) (by omega)) (by omega), ?_⟩
      and_intros
      have e4 : (1 + (u : Int)) * Sm i (u + 1) + Sm i u = Sm (i + 1) (u + 1) := by
        rw [Sm]
        have : ((u + 1 : Nat) : Int) = 1 + (u : Int) := by omega
        rw [this]
      rw [e4]
      simpa using hq
    · and_intros
      rw [upto_len]
      refine ⟨by simp only [List.length_map, List.length_range]; exact sized (by omega), .vr false 0 (.int (0 + (i : Int))), ?_, trivial⟩
      rw [← rowM_next]; rfl
  · obtain ⟨c3, rfl, f3⟩ := hI
    and_intros
    rw [upto_len]
    refine ⟨_, intsOf_map _, ?_⟩
    have : (rowM n (l : Int).toNat).sum = Fw n l 0 := by
      rw [← counted, ← sumN_list]
      rfl
    rw [this]
    exact q
end K43
end VL

namespace VL
namespace K43
open PySem L2 PySem.Spec PyProof.Rows
local macro_rules
  | `(tactic| and_intros) => `(tactic| try simp only [vK, vVar, vFrz, vMov, vBv, vNil, vCons, vApp, opGets, vFlat, vRecv, recvTy, tyD, vNoP, vPart, asI, vSl, vList, vTup, asB, vTB, truD, vTru, vNotT, vAndT, vOrT, vNotV, vAndV, vOrV, vIfE, vNext, vSeq, vBreak, vCont, vDrop, vRet, vRetN, vIf, vSet, vAug,
    vgName, vgNil, vgCons, vgTup, vAsg, vYes, vMut, vExt, isC, vCall, cargs, couts, free_eq, frO_some, fr_un, fr_vr, flat, startE, startC, outsE, wipeE, opI2, opI2c, opSub, opFdiv, opMod, opPow, opNeg, opOrd, opLt, opLe, opGt, opGe, opMul, opAdd, opEq, opNe, opIs, opIsNot, opIxA, opIx, opSl, opLen, opInt, opAbs, opMax, opMin, opSum, opList, opTuple, opStr, opRepr, opIsi, opFind, opUpper, opJoin, opSplit, opGet, opInA, opIn, opPop, opClear, opAppend,
    List.getElem?_cons_succ, List.getElem?_cons_zero, List.set_cons_succ, List.set_cons_zero, List.replicate_succ, List.replicate_zero, List.cons_append, List.nil_append, List.append_nil, List.length_cons, List.length_nil, Nat.sub_zero, Nat.zero_add, Nat.add_zero, Nat.reduceAdd, Nat.reduceSub,
    true_and, and_true, or_true, true_or, ite_true, ite_false, reduceIte, Bool.true_eq_false, Bool.false_eq_true, Nat.le_refl, isTy, vLc_eq, vFor_eq, srcL, srcT, srcS, srcR1, srcR2, srcR3, srcEL, srcZL, List.mem_cons, List.not_mem_nil, or_false, forall_eq, decide_eq_true_eq, Bool.not_eq_true', decide_eq_false_iff_not])
local macro_rules
  | `(tactic| subst_eqs) => `(tactic| repeat (refine And.intro (by first | assumption | exact True.intro | rfl | omega | exact cdiv (by decide) (by decide) | exact cmulL (by omega) (by omega) | exact cmulR (by omega) (by omega) | decide | exact sized' (by omega) | exact sized (by omega) | (simp only [List.length_append, List.length_map, List.length_cons, List.length_nil]; exact sized' (by omega)) | (simp only [List.length_append, List.length_map, List.length_cons, List.length_nil]; exact sized (by omega)) | exact Or.inl (by omega) | (refine And.intro ?_ ?_ <;> first | assumption | omega | decide)) ?_))
local macro_rules
  | `(tactic| injections) => `(tactic| try simp only [vK, vVar, vFrz, vMov, vBv, vNil, vCons, vApp, opGets, vFlat, vRecv, recvTy, tyD, vNoP, vPart, asI, vSl, vList, vTup, asB, vTB, truD, vTru, vNotT, vAndT, vOrT, vNotV, vAndV, vOrV, vIfE, vNext, vBreak, vCont, vDrop, vRet, vRetN, vIf, vSet, vAug,
    vgName, vgNil, vgCons, vgTup, vAsg, vYes, vMut, vExt, isC, vCall_eq, cargs, couts, free_eq, frO_some, fr_un, fr_vr, flat, startE, startC, outsE, wipeE, opI2, opI2c, opSub, opFdiv, opMod, opPow, opNeg, opOrd, opLt, opLe, opGt, opGe, opMul, opAdd, opEq, opNe, opIs, opIsNot, opIxA, opIx, opSl, opLen, opInt, opAbs, opMax, opMin, opSum, opList, opTuple, opStr, opRepr, opIsi, opFind, opUpper, opJoin, opSplit, opGet, opInA, opIn, opPop, opClear, opAppend,
    List.getElem?_cons_succ, List.getElem?_cons_zero, List.set_cons_succ, List.set_cons_zero, List.replicate_succ, List.replicate_zero, List.cons_append, List.nil_append, List.append_nil, List.length_cons, List.length_nil, Nat.sub_zero, Nat.zero_add, Nat.add_zero, Nat.reduceAdd, Nat.reduceSub,
    true_and, and_true, or_true, true_or, ite_true, ite_false, reduceIte, Bool.true_eq_false, Bool.false_eq_true, Nat.le_refl, isTy, vLc_eq, vFor_eq, srcL, srcT, srcS, srcR1, srcR2, srcR3, srcEL, srcZL, List.mem_cons, List.not_mem_nil, or_false, forall_eq, decide_eq_true_eq, Bool.not_eq_true', decide_eq_false_iff_not])
/-! ### all the rows, one by one -/
/-- the number of names in a row -/
def uo (r : List Int) : Int := r.foldl max (-1) + 1
theorem foldl_max (r : List Int) : ∀ z : Int, r.foldl max z ∈ z :: r ∧ ∀ y ∈ z :: r, y ≤ r.foldl max z := by
  induction r with
  | nil => intro z; simp
  | cons a r ih =>
    intro z
    obtain ⟨h1, h2⟩ := ih (max z a)
    rw [List.foldl_cons]
    refine ⟨?_, fun y hy => ?_⟩
    · rcases List.mem_cons.mp h1 with e | e
      · rw [e]
        by_cases h : z ≤ a
        · rw [Int.max_eq_right h]; simp
        · rw [Int.max_eq_left (by omega)]; simp
      · exact List.mem_cons_of_mem _ (List.mem_cons_of_mem _ e)
    · have h3 := h2 (max z a) List.mem_cons_self
      rcases List.mem_cons.mp hy with rfl | hy
      · exact Int.le_trans (Int.le_max_left _ _) h3
      · rcases List.mem_cons.mp hy with rfl | hy
        · exact Int.le_trans (Int.le_max_right _ _) h3
        · exact h2 y (List.mem_cons_of_mem _ hy)
theorem uo_of {r : List Int} {m : Int} (h1 : m ∈ -1 :: r) (h2 : ∀ y ∈ -1 :: r, y ≤ m) : m + 1 = uo r := by
  obtain ⟨h3, h4⟩ := foldl_max r (-1)
  have := h2 _ h3
  have := h4 _ h1
  unfold uo
  omega
theorem uo_snoc (r : List Int) (a : Int) : uo (r ++ [a]) = max (uo r) (a + 1) := by
  unfold uo
  rw [List.foldl_append]
  show max (r.foldl max (-1)) a + 1 = _
  omega
theorem uo_nn (r : List Int) : 0 ≤ uo r := by
  have := (foldl_max r (-1)).2 (-1) List.mem_cons_self
  unfold uo
  omega
/-- the rows that are one longer -/
def nx (n : Nat) (r : List Int) : List (List Int) := (List.range (min (uo r + 1) n).toNat).map fun a => r ++ [((a : Nat) : Int)]
def allR (n : Nat) : Nat → List (List Int)
  | 0 => [[]]
  | k + 1 => (allR n k).flatMap (nx n)
def rowsD (rs : List (List Int)) : List D := rs.map fun r => .list (r.map PyData.int)
theorem allR_uo {n : Nat} : ∀ {k : Nat} {r : List Int}, r ∈ allR n k → uo r ≤ n ∧ uo r ≤ k ∧ r.length = k
  | 0, r, h => by
    have e : r = [] := by simpa [allR] using h
    subst e
    refine ⟨?_, ?_, rfl⟩ <;> simp [uo] <;> omega
  | k + 1, r, h => by
    rw [allR, List.mem_flatMap] at h
    obtain ⟨r0, h1, h2⟩ := h
    obtain ⟨i1, i2, i3⟩ := allR_uo h1
    unfold nx at h2
    rw [List.mem_map] at h2
    obtain ⟨a, h3, rfl⟩ := h2
    rw [List.mem_range] at h3
    rw [uo_snoc]
    have := uo_nn r0
    refine ⟨by omega, by omega, by simp [i3]⟩
theorem flat_len {α β : Type} (f : α → List β) (c : Nat) : ∀ xs : List α, (∀ x ∈ xs, (f x).length ≤ c) → (xs.flatMap f).length ≤ xs.length * c
  | [], _ => by simp
  | x :: xs, h => by
    rw [List.flatMap_cons, List.length_append, List.length_cons, Nat.succ_mul]
    have := flat_len f c xs fun y hy => h y (List.mem_cons_of_mem _ hy)
    have := h x List.mem_cons_self
    omega
theorem allR_len {n : Nat} : ∀ {k : Nat}, k ≤ 6 → (allR n k).length ≤ 7 ^ k
  | 0, _ => by simp [allR]
  | k + 1, h => by
    have ih := allR_len (n := n) (k := k) (by omega)
    rw [allR]
    have h1 := flat_len (nx n) 7 (allR n k) fun r hr => by
      obtain ⟨i1, i2, i3⟩ := allR_uo hr
      have := uo_nn r
      unfold nx
      rw [List.length_map, List.length_range]
      omega
    have h2 : (allR n k).length * 7 ≤ 7 ^ k * 7 := Nat.mul_le_mul_right 7 ih
    rw [Nat.pow_succ]
    omega
/-- the sum over the rows of what can stand behind each -/
def sumR (n l : Nat) (rs : List (List Int)) : Int := (rs.map fun r => Fw n l (uo r).toNat).sum
theorem sumR_cons (n l : Nat) (r : List Int) (rs : List (List Int)) : sumR n l (r :: rs) = Fw n l (uo r).toNat + sumR n l rs := by simp [sumR]
theorem sumR_app (n l : Nat) (rs ss : List (List Int)) : sumR n l (rs ++ ss) = sumR n l rs + sumR n l ss := by simp [sumR]
theorem sum_const (f : Nat → Int) (c : Int) : ∀ m : Nat, (∀ u, u < m → f u = c) → ((List.range m).map f).sum = (m : Int) * c
  | 0, _ => by simp
  | m + 1, h => by
    rw [List.range_succ, List.map_append, List.sum_append, sum_const f c m fun u hu => h u (by omega)]
    simp only [List.map_cons, List.map_nil, List.sum_cons, List.sum_nil, Int.add_zero]
    rw [h m (by omega)]
    grind
theorem sumR_nx {n l : Nat} {r : List Int} (h : uo r ≤ n) : sumR n l (nx n r) = Fw n (l + 1) (uo r).toNat := by
  have h0 := uo_nn r
  obtain ⟨u, hu⟩ : ∃ u : Nat, uo r = u := ⟨(uo r).toNat, by omega⟩
  have e1 : sumR n l (nx n r) = ((List.range (min (uo r + 1) n).toNat).map fun a => Fw n l (max (uo r) ((a : Nat) + 1)).toNat).sum := by
    unfold sumR nx
    rw [List.map_map]
    congr 1
    apply List.map_congr_left
    intro a _
    show Fw n l (uo (r ++ [((a : Nat) : Int)])).toNat = _
    rw [uo_snoc]
  rw [e1, hu]
  by_cases hn : u < n
  · have e2 : (min ((u : Int) + 1) n).toNat = u + 1 := by omega
    rw [e2, List.range_succ, List.map_append, List.sum_append, sum_const _ (Fw n l u) u fun a ha => by
      have : (max (u : Int) ((a : Nat) + 1)).toNat = u := by omega
      rw [this]]
    have e3 : (max (u : Int) ((u : Nat) + 1)).toNat = u + 1 := by omega
    simp only [List.map_cons, List.map_nil, List.sum_cons, List.sum_nil, Int.add_zero, e3]
    show _ = Fw n (l + 1) u
    rw [Fw, if_pos hn]
    simp
  · have e2 : (min ((u : Int) + 1) n).toNat = u := by omega
    rw [e2, sum_const _ (Fw n l u) u fun a ha => by
      have : (max (u : Int) ((a : Nat) + 1)).toNat = u := by omega
      rw [this]]
    show _ = Fw n (l + 1) u
    rw [Fw, if_neg hn]
    simp
theorem sumR_flat {n l : Nat} : ∀ {rs : List (List Int)}, (∀ r ∈ rs, uo r ≤ n) → sumR n l (rs.flatMap (nx n)) = sumR n (l + 1) rs
  | [], _ => rfl
  | r :: rs, h => by
    rw [List.flatMap_cons, sumR_app, sumR_nx (h r List.mem_cons_self), sumR_flat fun x hx => h x (List.mem_cons_of_mem _ hx), sumR_cons]
theorem all_count (n : Nat) : ∀ l k : Nat, sumR n l (allR n k) = sumR n 0 (allR n (k + l))
  | 0, k => rfl
  | l + 1, k => by
    rw [← sumR_flat fun r hr => (allR_uo hr).1]
    have := all_count n l (k + 1)
    rw [allR] at this
    rw [this]
    congr 2
    omega
theorem all_len (n l : Nat) : ((allR n l).length : Int) = Fw n l 0 := by
  have h := all_count n l 0
  rw [Nat.zero_add] at h
  have h1 : sumR n 0 (allR n l) = ((allR n l).length : Int) := by
    unfold sumR
    generalize allR n l = rs
    induction rs with
    | nil => rfl
    | cons r rs ih =>
      rw [List.map_cons, List.sum_cons, ih, List.length_cons]
      simp only [Fw]
      omega
  rw [← h1, ← h]
  simp [sumR, allR, uo]
end K43
end VL

namespace VL
namespace K43
open PySem L2 PySem.Spec PyProof.Rows
local macro_rules
  | `(tactic| and_intros) => `(tactic| try simp only [vK, vVar, vFrz, vMov, vBv, vNil, vCons, vApp, opGets, vFlat, vRecv, recvTy, tyD, vNoP, vPart, asI, vSl, vList, vTup, asB, vTB, truD, vTru, vNotT, vAndT, vOrT, vNotV, vAndV, vOrV, vIfE, vNext, vSeq, vBreak, vCont, vDrop, vRet, vRetN, vIf, vSet, vAug,
    vgName, vgNil, vgCons, vgTup, vAsg, vYes, vMut, vExt, isC, vCall, cargs, couts, free_eq, frO_some, fr_un, fr_vr, flat, startE, startC, outsE, wipeE, opI2, opI2c, opSub, opFdiv, opMod, opPow, opNeg, opOrd, opLt, opLe, opGt, opGe, opMul, opAdd, opEq, opNe, opIs, opIsNot, opIxA, opIx, opSl, opLen, opInt, opAbs, opMax, opMin, opSum, opList, opTuple, opStr, opRepr, opIsi, opFind, opUpper, opJoin, opSplit, opGet, opInA, opIn, opPop, opClear, opAppend,
    List.getElem?_cons_succ, List.getElem?_cons_zero, List.set_cons_succ, List.set_cons_zero, List.replicate_succ, List.replicate_zero, List.cons_append, List.nil_append, List.append_nil, List.length_cons, List.length_nil, Nat.sub_zero, Nat.zero_add, Nat.add_zero, Nat.reduceAdd, Nat.reduceSub,
    true_and, and_true, or_true, true_or, ite_true, ite_false, reduceIte, Bool.true_eq_false, Bool.false_eq_true, Nat.le_refl, isTy, vLc_eq, vFor_eq, srcL, srcT, srcS, srcR1, srcR2, srcR3, srcEL, srcZL, List.mem_cons, List.not_mem_nil, or_false, forall_eq, decide_eq_true_eq, Bool.not_eq_true', decide_eq_false_iff_not])
local macro_rules
  | `(tactic| subst_eqs) => `(tactic| repeat (refine And.intro (by first | assumption | exact True.intro | rfl | omega | exact cdiv (by decide) (by decide) | exact cmulL (by omega) (by omega) | exact cmulR (by omega) (by omega) | decide | exact sized' (by omega) | exact sized (by omega) | (simp only [List.length_append, List.length_map, List.length_cons, List.length_nil]; exact sized' (by omega)) | (simp only [List.length_append, List.length_map, List.length_cons, List.length_nil]; exact sized (by omega)) | exact Or.inl (by omega) | (refine And.intro ?_ ?_ <;> first | assumption | omega | decide)) ?_))
local macro_rules
  | `(tactic| injections) => `(tactic| try simp only [vK, vVar, vFrz, vMov, vBv, vNil, vCons, vApp, opGets, vFlat, vRecv, recvTy, tyD, vNoP, vPart, asI, vSl, vList, vTup, asB, vTB, truD, vTru, vNotT, vAndT, vOrT, vNotV, vAndV, vOrV, vIfE, vNext, vBreak, vCont, vDrop, vRet, vRetN, vIf, vSet, vAug,
    vgName, vgNil, vgCons, vgTup, vAsg, vYes, vMut, vExt, isC, vCall_eq, cargs, couts, free_eq, frO_some, fr_un, fr_vr, flat, startE, startC, outsE, wipeE, opI2, opI2c, opSub, opFdiv, opMod, opPow, opNeg, opOrd, opLt, opLe, opGt, opGe, opMul, opAdd, opEq, opNe, opIs, opIsNot, opIxA, opIx, opSl, opLen, opInt, opAbs, opMax, opMin, opSum, opList, opTuple, opStr, opRepr, opIsi, opFind, opUpper, opJoin, opSplit, opGet, opInA, opIn, opPop, opClear, opAppend,
    List.getElem?_cons_succ, List.getElem?_cons_zero, List.set_cons_succ, List.set_cons_zero, List.replicate_succ, List.replicate_zero, List.cons_append, List.nil_append, List.append_nil, List.length_cons, List.length_nil, Nat.sub_zero, Nat.zero_add, Nat.add_zero, Nat.reduceAdd, Nat.reduceSub,
    true_and, and_true, or_true, true_or, ite_true, ite_false, reduceIte, Bool.true_eq_false, Bool.false_eq_true, Nat.le_refl, isTy, vLc_eq, vFor_eq, srcL, srcT, srcS, srcR1, srcR2, srcR3, srcEL, srcZL, List.mem_cons, List.not_mem_nil, or_false, forall_eq, decide_eq_true_eq, Bool.not_eq_true', decide_eq_false_iff_not])
def sp_law_all : VSp := fun ds Q _ => ∃ l n : Nat, ds = [.int l, .int n] ∧ l ≤ 6 ∧ n ≤ 40 ∧ ∀ rows : List D, (rows.length : Int) = Fw n l 0 → Q (.list rows) [.none, .none]
theorem hd_law_all : DefOk [0, 0] 8 t_law_all sp_law_all := by
  intro ds Qc Xc ⟨l, n, e, hl, hn, q⟩
  subst e
  refine ⟨rfl, ?_⟩
  unfold t_law_all
  and_intros
  refine ⟨by decide, by decide, ⟨by omega, by omega⟩, ?_⟩
  refine ForIn.of (fun i e => ∃ c3 c4 c5 c6 : Cell, e = [.vr false 0 (.int l), .vr false 0 (.int n), .vr false 0 (.list (rowsD (allR n i))), c3, c4, c5, c6, .un] ∧ Fr c3 ∧ Fr c4 ∧ Fr c5 ∧ Fr c6)
    ⟨_, _, _, _, rfl, trivial, trivial, trivial, trivial⟩ (fun i x e hx hI => ?_) (fun e hI => ?_)
  · obtain ⟨c3, c4, c5, c6, rfl, f3, f4, f5, f6⟩ := hI
    obtain ⟨hi, rfl⟩ := upto_get hx
    and_intros
    refine ⟨f3, by decide, f4, ?_⟩
    have hlen : (allR n i).length ≤ 117649 := Nat.le_trans (allR_len (by omega)) (Nat.pow_le_pow_right (by decide) (by omega : i ≤ 6))
    refine ForIn.of (fun j e => ∃ c5 c6 : Cell, e = [.vr false 0 (.int l), .vr false 0 (.int n), .vr false 0 (.list (rowsD (allR n i))), .vr false 0 (.int (0 + (i : Int))), .vr false 1 (.list (rowsD (((allR n i).take j).flatMap (nx n)))), c5, c6, .un] ∧ Fr c5 ∧ Fr c6)
      ⟨_, _, rfl, f5, f6⟩ (fun j x e hx hI => ?_) (fun e hI => ?_)
    · obtain ⟨c5, c6, rfl, f5, f6⟩ := hI
      unfold rowsD at hx
      rw [List.getElem?_map, Option.map_eq_some_iff] at hx
      obtain ⟨r, hr, rfl⟩ := hx
      have hm := List.mem_of_getElem? hr
      obtain ⟨u1, u2, u3⟩ := allR_uo hm
      have u0 := uo_nn r
      and_intros
      refine ⟨f5, by decide, by simp only [List.length_map]; exact sized (by omega), ?_⟩
      refine ⟨-1 :: r, by rw [← intsOf_map]; rfl, by simp, fun m h1 h2 => ?_⟩
      have hm1 := uo_of h1 h2
      and_intros
      refine ⟨f6, ?_⟩
      have e5 : (if (n : Int) < m + 1 + 1 then (n : Int) else m + 1 + 1) = min (uo r + 1) n := by split <;> omega
      rw [e5]
      refine ⟨⟨by omega, by omega⟩, by rw [upto_len]; exact sized (by omega), ?_⟩
      refine LcIn.map (fun u => .list (r.map PyData.int ++ [.int ((u : Nat) : Int)])) rfl (fun u x hx Q' hq => ?_) ?_
      · obtain ⟨hu, rfl⟩ := upto_get hx
        and_intros
        refine ⟨by decide, by simp only [List.length_map]; exact sized (by omega), ?_⟩
        have ez : (0 : Int) + (u : Int) = u := Int.zero_add _
        rw [ez] at hq ⊢
        exact hq
      · and_intros
        have hl2 : (((allR n i).take j).flatMap (nx n)).length ≤ 117649 * 7 := Nat.le_trans (flat_len (nx n) 7 _ fun x hx => by
          obtain ⟨v1, v2, v3⟩ := allR_uo (List.mem_of_mem_take hx)
          have v0 := uo_nn x
          unfold nx
          rw [List.length_map, List.length_range]
          omega) (Nat.mul_le_mul_right 7 (Nat.le_trans (List.length_take_le' _ _) hlen))
        refine ⟨by unfold rowsD; simp only [List.length_map, List.length_range, upto_len]; exact sized (by omega), .vr false 0 (.list (r.map PyData.int)), .vr false 0 (.int (m + 1)), ?_, trivial, trivial⟩
        rw [List.take_add_one, hr, upto_len]
        simp only [Option.toList_some, List.flatMap_append, List.flatMap_cons, List.flatMap_nil, List.append_nil, rowsD, List.map_append, nx, List.map_map, Function.comp_def, List.map_cons, List.map_nil]
    · obtain ⟨c5, c6, rfl, f5, f6⟩ := hI
      and_intros
      have e6 : (rowsD (allR n i)).length = (allR n i).length := by unfold rowsD; simp
      rw [e6, List.take_length]
      exact ⟨_, _, _, _, rfl, trivial, trivial, f5, f6⟩
  · obtain ⟨c3, c4, c5, c6, rfl, f3, f4, f5, f6⟩ := hI
    and_intros
    refine q _ ?_
    rw [upto_len]
    unfold rowsD
    rw [List.length_map, ← all_len]
    simp
end K43
end VL

namespace VL
namespace K43
open PySem L2 PySem.Spec PyProof.Rows
local macro_rules
  | `(tactic| and_intros) => `(tactic| try simp only [vK, vVar, vFrz, vMov, vBv, vNil, vCons, vApp, opGets, vFlat, vRecv, recvTy, tyD, vNoP, vPart, asI, vSl, vList, vTup, asB, vTB, truD, vTru, vNotT, vAndT, vOrT, vNotV, vAndV, vOrV, vIfE, vNext, vSeq, vBreak, vCont, vDrop, vRet, vRetN, vIf, vSet, vAug,
    vgName, vgNil, vgCons, vgTup, vAsg, vYes, vMut, vExt, isC, vCall, cargs, couts, free_eq, frO_some, fr_un, fr_vr, flat, startE, startC, outsE, wipeE, opI2, opI2c, opSub, opFdiv, opMod, opPow, opNeg, opOrd, opLt, opLe, opGt, opGe, opMul, opAdd, opEq, opNe, opIs, opIsNot, opIxA, opIx, opSl, opLen, opInt, opAbs, opMax, opMin, opSum, opList, opTuple, opStr, opRepr, opIsi, opFind, opUpper, opJoin, opSplit, opGet, opInA, opIn, opPop, opClear, opAppend,
    List.getElem?_cons_succ, List.getElem?_cons_zero, List.set_cons_succ, List.set_cons_zero, List.replicate_succ, List.replicate_zero, List.cons_append, List.nil_append, List.append_nil, List.length_cons, List.length_nil, Nat.sub_zero, Nat.zero_add, Nat.add_zero, Nat.reduceAdd, Nat.reduceSub,
    true_and, and_true, or_true, true_or, ite_true, ite_false, reduceIte, Bool.true_eq_false, Bool.false_eq_true, Nat.le_refl, isTy, vLc_eq, vFor_eq, srcL, srcT, srcS, srcR1, srcR2, srcR3, srcEL, srcZL, List.mem_cons, List.not_mem_nil, or_false, forall_eq, decide_eq_true_eq, Bool.not_eq_true', decide_eq_false_iff_not])
local macro_rules
  | `(tactic| subst_eqs) => `(tactic| repeat (refine And.intro (by first | assumption | exact True.intro | rfl | omega | exact cdiv (by decide) (by decide) | exact cmulL (by omega) (by omega) | exact cmulR (by omega) (by omega) | decide | exact sized' (by omega) | exact sized (by omega) | (simp only [List.length_append, List.length_map, List.length_cons, List.length_nil]; exact sized' (by omega)) | (simp only [List.length_append, List.length_map, List.length_cons, List.length_nil]; exact sized (by omega)) | exact Or.inl (by omega) | (refine And.intro ?_ ?_ <;> first | assumption | omega | decide)) ?_))
local macro_rules
  | `(tactic| injections) => `(tactic| try simp only [vK, vVar, vFrz, vMov, vBv, vNil, vCons, vApp, opGets, vFlat, vRecv, recvTy, tyD, vNoP, vPart, asI, vSl, vList, vTup, asB, vTB, truD, vTru, vNotT, vAndT, vOrT, vNotV, vAndV, vOrV, vIfE, vNext, vBreak, vCont, vDrop, vRet, vRetN, vIf, vSet, vAug,
    vgName, vgNil, vgCons, vgTup, vAsg, vYes, vMut, vExt, isC, vCall_eq, cargs, couts, free_eq, frO_some, fr_un, fr_vr, flat, startE, startC, outsE, wipeE, opI2, opI2c, opSub, opFdiv, opMod, opPow, opNeg, opOrd, opLt, opLe, opGt, opGe, opMul, opAdd, opEq, opNe, opIs, opIsNot, opIxA, opIx, opSl, opLen, opInt, opAbs, opMax, opMin, opSum, opList, opTuple, opStr, opRepr, opIsi, opFind, opUpper, opJoin, opSplit, opGet, opInA, opIn, opPop, opClear, opAppend,
    List.getElem?_cons_succ, List.getElem?_cons_zero, List.set_cons_succ, List.set_cons_zero, List.replicate_succ, List.replicate_zero, List.cons_append, List.nil_append, List.append_nil, List.length_cons, List.length_nil, Nat.sub_zero, Nat.zero_add, Nat.add_zero, Nat.reduceAdd, Nat.reduceSub,
    true_and, and_true, or_true, true_or, ite_true, ite_false, reduceIte, Bool.true_eq_false, Bool.false_eq_true, Nat.le_refl, isTy, vLc_eq, vFor_eq, srcL, srcT, srcS, srcR1, srcR2, srcR3, srcEL, srcZL, List.mem_cons, List.not_mem_nil, or_false, forall_eq, decide_eq_true_eq, Bool.not_eq_true', decide_eq_false_iff_not])
theorem hd_law : DefOk [0] 7 (t_law sp_law_draws sp_law_take sp_many_forms sp_law_many sp_law_whole sp_law_all) (spLaw 63) := by
  intro ds Qc Xc ⟨ns, e, hl, hb, q⟩
  subst e
  refine ⟨rfl, ?_⟩
  unfold t_law
  refine seq_ ?_
  injections
  refine call_ ?_
  injections
  refine ⟨ns, rfl, hl, fun ms hms => ?_⟩
  injections
  refine seq_ ?_
  injections
  refine seq_ ?_
  refine while_ (fun m e => ∃ (ms : List D) (c : Nat) (c3 c4 c5 c6 : Cell), e = [.vr false 0 (.list (ns.map .int)), .vr false 1 (.list ms), .vr false 0 (.int (c : Nat)), c3, c4, c5, c6] ∧ IntsD ms ∧ c ≤ 12 ∧ m = 12 - c ∧ Fr c3 ∧ Fr c4 ∧ Fr c5 ∧ Fr c6)
    (fun m e => ∃ (ms : List D) (c : Nat) (c3 c4 c5 c6 : Cell), e = [.vr false 0 (.list (ns.map .int)), .vr false 1 (.list ms), .vr false 0 (.int (c : Nat)), c3, c4, c5, c6] ∧ IntsD ms ∧ c < 12 ∧ m = 12 - c ∧ Fr c3 ∧ Fr c4 ∧ Fr c5 ∧ Fr c6) (fun _ _ => True)
    ⟨_, ms, 0, _, _, _, _, rfl, hms, by omega, rfl, trivial, trivial, trivial, trivial⟩ (fun m e hI Q qt qf => ?_) (fun m e hI hP => ?_) (fun m e hI _ => ?_)
  · obtain ⟨ms, c, c3, c4, c5, c6, rfl, h1, h2, rfl, f3, f4, f5, f6⟩ := hI
    have qf := qf trivial
    have qt : c < 12 → _ := fun h => qt ⟨ms, c, c3, c4, c5, c6, rfl, h1, h, rfl, f3, f4, f5, f6⟩
    and_intros
    split
    · exact qt (by omega)
    · refine ⟨by decide, ⟨h1.shaped, sh_nil⟩, ?_⟩
      split
      · by_cases hc : (c : Int) < 12
        · rw [decide_eq_true hc]; exact qt (by omega)
        · rw [decide_eq_false hc]; exact qf
      · exact qf
  · obtain ⟨ms, c, c3, c4, c5, c6, rfl, h1, h2, rfl, f3, f4, f5, f6⟩ := hP
    refine seq_ ?_
    injections
    refine call_ ?_
    injections
    refine ⟨ms, 41, rfl, h1, by decide, fun r1 ms1 l1 g1 i1 _ => ?_⟩
    injections
    refine ⟨f3, ?_⟩
    refine seq_ ?_
    injections
    refine call_ ?_
    injections
    refine ⟨ms1, 27, rfl, i1, by decide, fun r2 ms2 l2 g2 i2 _ => ?_⟩
    injections
    refine ⟨f4, ?_⟩
    obtain ⟨a1, rfl⟩ := Int.eq_ofNat_of_zero_le l1
    obtain ⟨a2, rfl⟩ := Int.eq_ofNat_of_zero_le l2
    refine seq_ ?_
    injections
    refine call_ ?_
    injections
    refine ⟨a1, a2, rfl, by omega, by omega, ?_⟩
    injections
    refine ⟨f5, ?_⟩
    refine seq_ ?_
    injections
    refine call_ ?_
    injections
    refine ⟨_, rfl, fun b hb => ?_⟩
    obtain rfl := hb _ rfl
    injections
    refine call_ ?_
    injections
    refine ⟨a1, a2, rfl, by omega, by omega, ?_⟩
    injections
    refine ⟨⟨sh_int _, sh_int _⟩, ?_⟩
    simp only [eqv_int, decide_true, Bool.not_true, Bool.false_eq_true, reduceCtorEq, ite_false]
    refine seq_ ?_
    injections
    refine call_ ?_
    injections
    refine ⟨ms2, 7, rfl, i2, by decide, fun r3 ms3 l3 g3 i3 _ => ?_⟩
    injections
    refine ⟨f6, ?_⟩
    refine seq_ ?_
    injections
    refine call_ ?_
    injections
    refine ⟨ms3, 27, rfl, i3, by decide, fun r4 ms4 l4 g4 i4 _ => ?_⟩
    injections
    obtain ⟨a3, rfl⟩ := Int.eq_ofNat_of_zero_le l3
    obtain ⟨a4, rfl⟩ := Int.eq_ofNat_of_zero_le l4
    refine seq_ ?_
    injections
    refine call_ ?_
    injections
    refine ⟨a3, a4, rfl, by omega, by omega, ?_⟩
    injections
    refine call_ ?_
    injections
    refine ⟨a3, a4, rfl, by omega, by omega, fun rows hrows => ?_⟩
    injections
    refine ⟨⟨sh_int _, sh_int _⟩, ?_⟩
    rw [hrows]
    simp only [eqv_int, decide_true, Bool.not_true, Bool.false_eq_true, reduceCtorEq, ite_false]
    exact ⟨12 - (c + 1), by omega, ms4, c + 1, _, _, _, _, rfl, i4, by omega, rfl, trivial, trivial, trivial, trivial⟩
  · obtain ⟨ms, c, c3, c4, c5, c6, rfl, h1, h2, rfl, f3, f4, f5, f6⟩ := hI
    injections
    refine call_ ?_
    injections
    refine ⟨0, 0, rfl, by omega, by omega, ?_⟩
    injections
    refine ⟨⟨sh_int _, sh_int _⟩, ?_⟩
    rw [if_pos (by rw [eqv_int]; rfl)]
    refine call_ ?_
    injections
    refine ⟨1, 0, rfl, by omega, by omega, ?_⟩
    injections
    refine ⟨⟨sh_int _, sh_int _⟩, ?_⟩
    rw [if_pos (by rw [eqv_int]; rfl)]
    refine call_ ?_
    injections
    refine ⟨40, 26, rfl, by omega, by omega, ?_⟩
    injections
    refine call_ ?_
    injections
    refine ⟨40, 26, rfl, by omega, by omega, ?_⟩
    injections
    refine ⟨⟨sh_int _, sh_int _⟩, ?_⟩
    rw [eqv_int, decide_eq_true rfl]
    exact q _
end K43
end VL

namespace VL
namespace K43
open PySem L2 PySem.Spec PyProof.Rows
theorem all_mk {l : PySem.W.OpenLaw} {w : World} {K : PySem.W.Frag} {h : Heap} {mg : Str → Option Value} {fa : Addr} (X : K.In h) (G : h.Ns mainGlobals mg) (hfa : mg "law" = some (.ref fa))
    {a_ways_on : Addr} {od_ways_on an_ways_on : Option Addr} {sl_ways_on : Array (Option Value)} {oc_ways_on kV_ways_on dc_ways_on pm_ways_on cd_ways_on ct_ways_on : Value}
    (aways_on : PySem.W.nsIn K mainGlobals "ways_on" = some (some (.ref a_ways_on))) (lways_on : K.lookup a_ways_on = some ⟨oc_ways_on, od_ways_on, .func (PySem.W.fnOf "ways_on" "ways_on" (defArgs s_ways_on) (defBody s_ways_on) (defScope s_ways_on) .none kV_ways_on dc_ways_on pm_ways_on an_ways_on cd_ways_on ct_ways_on), sl_ways_on⟩) (cways_on : PySem.W.codeIn K cd_ways_on "ways_on" = true) (kways_on : PySem.W.keepIn K (.ref a_ways_on) = true)
    {a_law_draws : Addr} {od_law_draws an_law_draws : Option Addr} {sl_law_draws : Array (Option Value)} {oc_law_draws kV_law_draws dc_law_draws pm_law_draws cd_law_draws ct_law_draws : Value}
    (alaw_draws : PySem.W.nsIn K mainGlobals "_law_draws" = some (some (.ref a_law_draws))) (llaw_draws : K.lookup a_law_draws = some ⟨oc_law_draws, od_law_draws, .func (PySem.W.fnOf "_law_draws" "_law_draws" (defArgs s_law_draws) (defBody s_law_draws) (defScope s_law_draws) .none kV_law_draws dc_law_draws pm_law_draws an_law_draws cd_law_draws ct_law_draws), sl_law_draws⟩) (claw_draws : PySem.W.codeIn K cd_law_draws "_law_draws" = true) (klaw_draws : PySem.W.keepIn K (.ref a_law_draws) = true)
    {a_law_take : Addr} {od_law_take an_law_take : Option Addr} {sl_law_take : Array (Option Value)} {oc_law_take kV_law_take dc_law_take pm_law_take cd_law_take ct_law_take : Value}
    (alaw_take : PySem.W.nsIn K mainGlobals "_law_take" = some (some (.ref a_law_take))) (llaw_take : K.lookup a_law_take = some ⟨oc_law_take, od_law_take, .func (PySem.W.fnOf "_law_take" "_law_take" (defArgs s_law_take) (defBody s_law_take) (defScope s_law_take) .none kV_law_take dc_law_take pm_law_take an_law_take cd_law_take ct_law_take), sl_law_take⟩) (claw_take : PySem.W.codeIn K cd_law_take "_law_take" = true) (klaw_take : PySem.W.keepIn K (.ref a_law_take) = true)
    {a_law_whole : Addr} {od_law_whole an_law_whole : Option Addr} {sl_law_whole : Array (Option Value)} {oc_law_whole kV_law_whole dc_law_whole pm_law_whole cd_law_whole ct_law_whole : Value}
    (alaw_whole : PySem.W.nsIn K mainGlobals "_law_whole" = some (some (.ref a_law_whole))) (llaw_whole : K.lookup a_law_whole = some ⟨oc_law_whole, od_law_whole, .func (PySem.W.fnOf "_law_whole" "_law_whole" (defArgs s_law_whole) (defBody s_law_whole) (defScope s_law_whole) .none kV_law_whole dc_law_whole pm_law_whole an_law_whole cd_law_whole ct_law_whole), sl_law_whole⟩) (claw_whole : PySem.W.codeIn K cd_law_whole "_law_whole" = true) (klaw_whole : PySem.W.keepIn K (.ref a_law_whole) = true)
    {a_law_all : Addr} {od_law_all an_law_all : Option Addr} {sl_law_all : Array (Option Value)} {oc_law_all kV_law_all dc_law_all pm_law_all cd_law_all ct_law_all : Value}
    (alaw_all : PySem.W.nsIn K mainGlobals "_law_all" = some (some (.ref a_law_all))) (llaw_all : K.lookup a_law_all = some ⟨oc_law_all, od_law_all, .func (PySem.W.fnOf "_law_all" "_law_all" (defArgs s_law_all) (defBody s_law_all) (defScope s_law_all) .none kV_law_all dc_law_all pm_law_all an_law_all cd_law_all ct_law_all), sl_law_all⟩) (claw_all : PySem.W.codeIn K cd_law_all "_law_all" = true) (klaw_all : PySem.W.keepIn K (.ref a_law_all) = true)
    {a_law_many : Addr} {od_law_many an_law_many : Option Addr} {sl_law_many : Array (Option Value)} {oc_law_many kV_law_many dc_law_many pm_law_many cd_law_many ct_law_many : Value}
    (alaw_many : PySem.W.nsIn K mainGlobals "_law_many" = some (some (.ref a_law_many))) (llaw_many : K.lookup a_law_many = some ⟨oc_law_many, od_law_many, .func (PySem.W.fnOf "_law_many" "_law_many" (defArgs s_law_many) (defBody s_law_many) (defScope s_law_many) .none kV_law_many dc_law_many pm_law_many an_law_many cd_law_many ct_law_many), sl_law_many⟩) (claw_many : PySem.W.codeIn K cd_law_many "_law_many" = true) (klaw_many : PySem.W.keepIn K (.ref a_law_many) = true)
    {a_many_forms : Addr} {od_many_forms an_many_forms : Option Addr} {sl_many_forms : Array (Option Value)} {oc_many_forms kV_many_forms dc_many_forms pm_many_forms cd_many_forms ct_many_forms : Value}
    (amany_forms : PySem.W.nsIn K mainGlobals "many_forms" = some (some (.ref a_many_forms))) (lmany_forms : K.lookup a_many_forms = some ⟨oc_many_forms, od_many_forms, .func (PySem.W.fnOf "many_forms" "many_forms" (defArgs s_many_forms) (defBody s_many_forms) (defScope s_many_forms) .none kV_many_forms dc_many_forms pm_many_forms an_many_forms cd_many_forms ct_many_forms), sl_many_forms⟩) (cmany_forms : PySem.W.codeIn K cd_many_forms "many_forms" = true) (kmany_forms : PySem.W.keepIn K (.ref a_many_forms) = true)
    {a_law : Addr} {od_law an_law : Option Addr} {sl_law : Array (Option Value)} {oc_law kV_law dc_law pm_law cd_law ct_law : Value}
    (alaw : PySem.W.nsIn K mainGlobals "law" = some (some (.ref a_law))) (llaw : K.lookup a_law = some ⟨oc_law, od_law, .func (PySem.W.fnOf "law" "law" (defArgs s_law) (defBody s_law) (defScope s_law) .none kV_law dc_law pm_law an_law cd_law ct_law), sl_law⟩) (claw : PySem.W.codeIn K cd_law "law" = true) (klaw : PySem.W.keepIn K (.ref a_law) = true)
    (zrange : PySem.W.nsIn K mainGlobals "range" = some none)
    (zint : PySem.W.nsIn K mainGlobals "int" = some none)
    (zlen : PySem.W.nsIn K mainGlobals "len" = some none)
    (zmin : PySem.W.nsIn K mainGlobals "min" = some none)
    (zabs : PySem.W.nsIn K mainGlobals "abs" = some none)
    (zisinstance : PySem.W.nsIn K mainGlobals "isinstance" = some none)
    (zbool : PySem.W.nsIn K mainGlobals "bool" = some none)
    (zmax : PySem.W.nsIn K mainGlobals "max" = some none)
    (zsum : PySem.W.nsIn K mainGlobals "sum" = some none)
    : ∃ fd : FuncData, (∀ (s : Shared) (v : Value), BindsTo s fd ⟨[v], []⟩ [("_law_script", v)]) ∧ ∀ base : Heap, K.In base → base.Ns mainGlobals mg → FnG l.prog w K mg base 3 fa fd ["_law_script"] (spV K [0] 0 (spLaw 63)) := by
  have e := hfa.symm.trans (PySem.W.mg_of X G alaw)
  cases e
  have F_ways_on := fun_mk (st := s_ways_on) lways_on cways_on kways_on
  have b_ways_on := F_ways_on.binds (ps := ["length", "names"]) fun _ _ _ _ _ _ us hl => match us, hl with | [_, _], _ => rfl
  have e_ways_on := PySem.W.mg_of X G aways_on
  have F_law_draws := fun_mk (st := s_law_draws) llaw_draws claw_draws klaw_draws
  have b_law_draws := F_law_draws.binds (ps := ["_law_script"]) fun _ _ _ _ _ _ us hl => match us, hl with | [_], _ => rfl
  have e_law_draws := PySem.W.mg_of X G alaw_draws
  have F_law_take := fun_mk (st := s_law_take) llaw_take claw_take klaw_take
  have b_law_take := F_law_take.binds (ps := ["_law_draws_here", "_law_many_here"]) fun _ _ _ _ _ _ us hl => match us, hl with | [_, _], _ => rfl
  have e_law_take := PySem.W.mg_of X G alaw_take
  have F_law_whole := fun_mk (st := s_law_whole) llaw_whole claw_whole klaw_whole
  have b_law_whole := F_law_whole.binds (ps := ["_law_thing"]) fun _ _ _ _ _ _ us hl => match us, hl with | [_], _ => rfl
  have e_law_whole := PySem.W.mg_of X G alaw_whole
  have F_law_all := fun_mk (st := s_law_all) llaw_all claw_all klaw_all
  have b_law_all := F_law_all.binds (ps := ["_law_length", "_law_names"]) fun _ _ _ _ _ _ us hl => match us, hl with | [_, _], _ => rfl
  have e_law_all := PySem.W.mg_of X G alaw_all
  have F_law_many := fun_mk (st := s_law_many) llaw_many claw_many klaw_many
  have b_law_many := F_law_many.binds (ps := ["_law_length", "_law_names"]) fun _ _ _ _ _ _ us hl => match us, hl with | [_, _], _ => rfl
  have e_law_many := PySem.W.mg_of X G alaw_many
  have F_many_forms := fun_mk (st := s_many_forms) lmany_forms cmany_forms kmany_forms
  have b_many_forms := F_many_forms.binds (ps := ["length", "names"]) fun _ _ _ _ _ _ us hl => match us, hl with | [_, _], _ => rfl
  have e_many_forms := PySem.W.mg_of X G amany_forms
  have F_law := fun_mk (st := s_law) llaw claw klaw
  have b_law := F_law.binds (ps := ["_law_script"]) fun _ _ _ _ _ _ us hl => match us, hl with | [_], _ => rfl
  have e_law := PySem.W.mg_of X G alaw
  have m_range := PySem.W.mg_none_of X G zrange
  have m_int := PySem.W.mg_none_of X G zint
  have m_len := PySem.W.mg_none_of X G zlen
  have m_min := PySem.W.mg_none_of X G zmin
  have m_abs := PySem.W.mg_none_of X G zabs
  have m_isinstance := PySem.W.mg_none_of X G zisinstance
  have m_bool := PySem.W.mg_none_of X G zbool
  have m_max := PySem.W.mg_none_of X G zmax
  have m_sum := PySem.W.mg_none_of X G zsum
  refine ⟨PySem.W.fnOf "law" "law" (defArgs s_law) (defBody s_law) (defScope s_law) .none kV_law dc_law pm_law an_law cd_law ct_law, fun s v => .of_eq rfl, fun base _ _ => ?_⟩
  have G_ways_on := ok_ways_on (P := l.prog) (w := w) (mg := mg) (base := base) F_ways_on  m_range m_int hd_ways_on
  have G_law_draws := ok_law_draws (P := l.prog) (w := w) (mg := mg) (base := base) F_law_draws  m_len m_min m_range m_abs hd_law_draws
  have G_law_take := ok_law_take (P := l.prog) (w := w) (mg := mg) (base := base) F_law_take  hd_law_take
  have G_law_whole := ok_law_whole (P := l.prog) (w := w) (mg := mg) (base := base) F_law_whole  m_isinstance m_bool m_int hd_law_whole
  have G_law_all := ok_law_all (P := l.prog) (w := w) (mg := mg) (base := base) F_law_all  m_range m_max m_min hd_law_all
  have G_law_many := ok_law_many (P := l.prog) (w := w) (mg := mg) (base := base) F_law_many  m_range m_sum hd_law_many
  have G_many_forms := ok_many_forms (P := l.prog) (w := w) (mg := mg) (base := base) F_many_forms G_ways_on e_ways_on kways_on b_ways_on hd_many_forms
  have G_law := ok_law (P := l.prog) (w := w) (mg := mg) (base := base) F_law G_law_draws e_law_draws klaw_draws b_law_draws G_law_take e_law_take klaw_take b_law_take G_many_forms e_many_forms kmany_forms b_many_forms G_law_many e_law_many klaw_many b_law_many G_law_whole e_law_whole klaw_whole b_law_whole G_law_all e_law_all klaw_all b_law_all m_len hd_law
  exact G_law
end K43
end VL
open PySem PySem.W PyProof.Rows VL
set_option maxHeartbeats 0 in
theorem PySem.Challenge.cw_namelike_k43_forms_counted_holds : PySem.Challenge.rw_namelike_k43_forms_counted.Holds := by
  w_on; o_law; k_head; (case hw => w_witness2)
  k_fill
  refine VL.walk_ofG (l := PySem.Challenge.rw_namelike_k43_forms_counted) (n := 63) (k := 3) (x := "_law_script") rfl (by decide) rfl ⟨rfl, by decide, by decide⟩ (fun w h Y => PySem.W.kIn_of Y) ?F
  case F =>
    intro w mg fa h KX G hmg
    refine' VL.K43.all_mk KX G hmg ?aways_on ?lways_on ?cways_on ?kways_on ?alaw_draws ?llaw_draws ?claw_draws ?klaw_draws ?alaw_take ?llaw_take ?claw_take ?klaw_take ?alaw_whole ?llaw_whole ?claw_whole ?klaw_whole ?alaw_all ?llaw_all ?claw_all ?klaw_all ?alaw_many ?llaw_many ?claw_many ?klaw_many ?amany_forms ?lmany_forms ?cmany_forms ?kmany_forms ?alaw ?llaw ?claw ?klaw ?zrange ?zint ?zlen ?zmin ?zabs ?zisinstance ?zbool ?zmax ?zsum
    (case aways_on => k_is); (case lways_on => k_is); (case cways_on => k_is); (case kways_on => k_is); (case alaw_draws => k_is); (case llaw_draws => k_is); (case claw_draws => k_is); (case klaw_draws => k_is)
    (case alaw_take => k_is); (case llaw_take => k_is); (case claw_take => k_is); (case klaw_take => k_is); (case alaw_whole => k_is); (case llaw_whole => k_is); (case claw_whole => k_is); (case klaw_whole => k_is)
    (case alaw_all => k_is); (case llaw_all => k_is); (case claw_all => k_is); (case klaw_all => k_is); (case alaw_many => k_is); (case llaw_many => k_is); (case claw_many => k_is); (case klaw_many => k_is)
    (case amany_forms => k_is); (case lmany_forms => k_is); (case cmany_forms => k_is); (case kmany_forms => k_is); (case alaw => k_is); (case llaw => k_is); (case claw => k_is); (case klaw => k_is)
    (case zrange => k_is); (case zint => k_is); (case zlen => k_is); (case zmin => k_is); (case zabs => k_is); (case zisinstance => k_is); (case zbool => k_is); (case zmax => k_is)
    (case zsum => k_is)

